import PyProof.Rows.All
import Wide.All
import OpenK.AllK
import Wide.FinOn
import HandS.ForMost
import HandS.Deep
import HandS.Style
import HandS.TupMul
import KE.GoesMore
import PyProof.Draws
import PyProof.ReprRoads
import HandS.Exc
import HandS.TryOnly
import HandS.WordsExc
import KE.SortData
import HandS.SetFor
import HandS.Strs
import PyProof.Walks
import PyProof.ListMulAny
import HandS.ExcInit
import HandS.Nested
import KE.KSuper
import KE.KExcSuper
import HandS.ExcField
import HandS.DictComp
import HandS.TupLen
import KE.KDictKeyed
import HandS.TupAny
import HandS.Wide
import HandS.IsInst
import HandS.Flow
import HandS.Zip
import KE.DataIsa
import HandS.Star
import HandS.Small
import PySem.Challenge.RW_notewire_k06_whole_likes
set_option Elab.async false
set_option linter.all false
set_option maxRecDepth 100000
set_option maxHeartbeats 2000000
section
set_option Elab.async false
set_option linter.all false
set_option maxRecDepth 100000
set_option maxHeartbeats 1000000
/-! NXa: enumerate over a tuple -/
namespace PySem
open Sem (wp)
open AutoSeq1 (wpAny_loadPart')
theorem nx_meets_enumT (l : Addr) (items : Array Value) (n : Nat) (dct : Option Addr) (sl : Array (Option Value)) :
    Meets (Builtin.«enumerate.__new__» ⟨[.type "enumerate", .ref l], []⟩) (fun _ R s => s.heap.get? l = some { cls := .type "tuple", dict := dct, data := .seq items n, slots := sl } ∧
      R (.ok (.ret (.ref (s.heap.push { cls := .type "tuple_iterator", data := .fields #[.ref l, .int 0 0] }).objs.size)))
        { s with heap := (s.heap.push { cls := .type "tuple_iterator", data := .fields #[.ref l, .int 0 0] }).push { cls := .type "enumerate", data := .fields #[.none, .bool false, .ref s.heap.objs.size, rawInt 0, .none, .none] } }) :=
  .of_wp fun prog w A R s h => by
    obtain ⟨hp, g, d, tk, os⟩ := s; obtain ⟨hl, h⟩ := h
    have hsub := sub_enumerate
    have hL : Heap.IsTuple (Shared.heap ⟨hp, g, d, tk, os⟩) l items := ⟨_, hl, rfl, n, rfl⟩
    wp_walk using wpAny_loadPart' hl
    refine wpAny_stack_any fun st => wpAny_pure ?_
    split
    · rename_i c _ _ _ _ _
      cases (c == Value.type "enumerate")
      · wp_walk using wpAny_loadPart' hl, wpAny_pyIter_tuple hL
        exact ⟨_, rfl, h⟩
      · wp_walk using wpAny_loadPart' hl, wpAny_pyIter_tuple hL
        exact ⟨_, rfl, h⟩
    · wp_walk using wpAny_loadPart' hl, wpAny_pyIter_tuple hL
      exact ⟨_, rfl, h⟩
theorem nx_call_enumT {prog : Program} {w : World} {A : Around} {E : Value → Shared → Prop} {s : Shared} {l : Addr} {items : Array Value} {Q : Value → Shared → Prop} (hL : s.heap.IsTuple l items)
    (h : ∀ h', IsEnum h' (s.heap.objs.size + 1) s.heap.objs.size 0 .none → h'.IsTupleIter s.heap.objs.size l 0 → h'.objs.size = s.heap.objs.size + 2 →
      (∀ b o, s.heap.get? b = some o → h'.get? b = some o) → Q (.ref (s.heap.objs.size + 1)) { s with heap := h' }) :
    wpAny (model prog w) A (call (.type "enumerate") [.ref l]) Q E s := by
  obtain ⟨⟨c, dct, dt, sl⟩, hl, hc, n, hd⟩ := hL
  replace hc : c = .type "tuple" := hc
  replace hd : dt = .seq items n := hd
  subst hc hd
  refine callType_new F.called_enumerate (by decide) (F.typeCall_enumerate_1 _) (F.newCall_enumerate_1 _) (fun obj => F.args_object_init_2 obj _) F.entry_enumerate_new
    (nx_meets_enumT l items n dct sl) ⟨hl, ?_⟩
  have hz : (s.heap.push { cls := .type "tuple_iterator", data := .fields #[.ref l, .int 0 0] }).objs.size = s.heap.objs.size + 1 := Heap.size_push ..
  show _ ∧ _
  rw [hz]
  have he : IsEnum ((s.heap.push { cls := .type "tuple_iterator", data := .fields #[.ref l, .int 0 0] }).push
      { cls := .type "enumerate", data := .fields #[.none, .bool false, .ref s.heap.objs.size, rawInt 0, .none, .none] }) (s.heap.objs.size + 1) s.heap.objs.size 0 .none := by
    have := Heap.get?_push_size (s.heap.push { cls := .type "tuple_iterator", data := .fields #[.ref l, .int 0 0] })
      (o := { cls := .type "enumerate", data := .fields #[.none, .bool false, .ref s.heap.objs.size, rawInt 0, .none, .none] }) rfl
    rw [hz] at this; exact this
  refine ⟨⟨_, he, rfl⟩, h _ he ⟨_, Heap.get?_push_of_some _ (Heap.get?_push_size _ rfl), rfl, rfl⟩ (by rw [Heap.size_push, hz]) fun b o x => Heap.get?_push_of_some _ (Heap.get?_push_of_some _ x)⟩
end PySem
namespace NW
open PySem L2 PyProof.Rows
/-- at the end nothing is drawn -/
theorem drawsEnd {prog : Program} {w : World} {A : Around} (hh : A.handled = none) (it t : Addr) (items : Array Value) (i : Nat) (hi : items.size ≤ i) :
    Draws prog w A it [it, t] i (fun _ _ => True) (fun j h => j = i ∧ h.IsTupleIter it t i ∧ h.IsTuple t items) where
  live := fun _ _ st => let ⟨o, ho, _⟩ := st.2.1; ⟨o, ho⟩
  frame := fun _ _ _ st hk => ⟨st.1, st.2.1.at fun o e => hk it (by simp) o e, st.2.2.at fun o e => hk t (by simp) o e⟩
  item := fun j s Q E hj st hQ => absurd st.1 (Nat.ne_of_lt hj)
  done := fun s Q E st hE => PySem.wpAny_nextOf_tuple_end hh st.2.1 st.2.2 (by simp; omega) hE
/-- the tuple at a as it stands at each turn, each item in a new pair -/
def IteT (K : PySem.W.Frag) (a : Addr) : It :=
  ⟨fun i H => ∃ (xs : List V) (x : V), SqT K H a xs ∧ xs[i]? = some x, fun i H v H' => ∃ T x, v = .ref T ∧ H T = none ∧ H' = upd H T (.tup [.int (i : Nat), x]) ∧ ∀ xs, SqT K H a xs → xs[i]? = some x, fun i H => ∃ xs : List V, SqT K H a xs ∧ xs.length ≤ i⟩
theorem turn_enumT {P : Program} {w : World} {K : PySem.W.Frag} {elts : List Expr} {kk : Nat} {tpos : Pos} (a e it : Addr) :
    Turn P w K (.Tuple elts kk tpos) (IteT K a) [e, it] e (fun i h => (∃ old, IsEnum h e it ((i : Nat) : Int) old) ∧ h.IsTupleIter it a i ∧ e ≠ it) where
  mem := by simp
  obj := fun i h st b hb => by
    obtain ⟨⟨old, he⟩, ⟨o, ho, hc, hd⟩, _⟩ := st
    have e' : b = e ∨ b = it := by simpa using hb
    rcases e' with z | z
    · rw [z]; exact ⟨_, he, fun v q => nomatch q⟩
    · rw [z]; exact ⟨o, ho, fun v q => by rw [hd] at q; cases q⟩
  keep := fun i h h' st k => let ⟨⟨old, he⟩, hi, hne⟩ := st; ⟨⟨old, k e (by simp) _ he⟩, hi.at fun o q => k it (by simp) o q, hne⟩
  item := by
    intro X hP hw hK hc i pins s σ H E I hf st hg
    subst hP hw hK
    obtain ⟨⟨old, he⟩, hit, hne⟩ := st
    obtain ⟨xs, x, hq, hx⟩ := hg
    obtain ⟨its, rv, p, hz⟩ := I.tuple hq
    obtain ⟨u, hu, ru⟩ := rv.get hx
    have hel : e < s.heap.objs.size := Heap.lt_size he
    have hil : it < s.heap.objs.size := by obtain ⟨_, q, _⟩ := hit; exact Heap.lt_size q
    have hpl : s.heap.IsTuple a its.toArray := p
    have hal : a ≠ e ∧ a ≠ it := by
      obtain ⟨oa, ha, ca, _⟩ := id hpl
      obtain ⟨oi, hi, ci, _⟩ := id hit
      refine ⟨fun z => ?_, fun z => ?_⟩
      · have he' : s.heap.get? e = some _ := he
        rw [z, he'] at ha
        cases ha
        injection ca with ca
        exact absurd ca (by decide)
      · rw [z, hi] at ha
        cases ha
        rw [ci] at ca
        injection ca with ca
        exact absurd ca (by decide)
    have hlt : i < its.toArray.size := by
      have := (List.getElem?_eq_some_iff.mp hu).1
      simpa using this
    refine wpAny_pyNext_enum_itemD (Draws.tuple (A := X.A.in1) (I.ok.hd hc) it a hal.2 its.toArray) he ⟨hit, hpl⟩ hlt hne (by simp [hne, hal.1.symm]) fun v h' tk hv ho st' hT hsz hk => ?_
    obtain ⟨hit', _⟩ := st'
    have hvu : v = u := by
      have hv' : its.toArray[i]? = some v := hv
      have : its[i]? = some v := by simpa using hv'
      rw [hu] at this
      exact (Option.some.inj this).symm
    subst hvu
    refine ⟨_, rfl, wpAny_letOwnedTupleGo_enum (s := { s with heap := h', toks := tk + 1 }) ho fun h'' he' sb => ?_⟩
    have hT2 : h''.get? s.heap.objs.size = some { cls := .type "tuple", data := .seq #[.int i tk, v] } := (sb.2 _ (Nat.ne_of_gt hel)).trans hT
    have new : ObjOk X.prog X.w (upd H s.heap.objs.size (.tup [.int (i : Nat), x])) h'' s.heap.objs.size (.tup [.int (i : Nat), x]) :=
      ⟨by show 2 ≤ sizeLine; decide, [.int i tk, v], .cons ⟨_, rfl⟩ (.cons ru .nil), ⟨_, hT2, rfl, _, rfl⟩⟩
    have I1 : Inv X pins σ (upd H s.heap.objs.size (.tup [.int (i : Nat), x])) { s with heap := h'', toks := tk + 1 } :=
      I.turnedNew (ch := [e, it]) (fun b ob hb q => (sb.2 b (fun z => hb (by simp [z]))).trans (hk b ob (fun z => hb (by simp [z])) (fun z => hb (by simp [z])) q)) hf (Nat.le_refl _) new
    refine ⟨.ref s.heap.objs.size, _, I1, rfl, ⟨_, x, rfl, I.hok.fresh (Nat.le_refl _), rfl, fun ys hy => by rw [I.tuple_inj hy hq]; exact hx⟩, ⟨⟨v, ?_⟩, hit'.at fun o q => (sb.2 it (Ne.symm hne)).trans q, hne⟩, fun b hb => ?_⟩
    · have e1 : ((i + 1 : Nat) : Int) = (i : Int) + 1 := by omega
      rw [e1]; exact he'
    · have hb' : b < s.heap.objs.size := by
        have e' : b = e ∨ b = it := by simpa using hb
        rcases e' with z | z
        · rw [z]; exact hel
        · rw [z]; exact hil
      rw [upd_ne (Nat.ne_of_lt hb')]
      exact (hf b hb).1
  done := by
    intro X hP hw hK hc i pins s σ H E I hf st hg
    subst hP hw hK
    obtain ⟨⟨old, he⟩, hit, hne⟩ := st
    obtain ⟨xs, hq, hx⟩ := hg
    obtain ⟨its, rv, p, hz⟩ := I.tuple hq
    obtain ⟨f0, f1, f2, f3, f4, f5⟩ := hf it (by simp)
    have hl := rv.length
    have hD : Draws X.prog X.w X.A.in1 it [it, a] i (fun _ _ => True) (fun j h => j = i ∧ h.IsTupleIter it a i ∧ h.IsTuple a its.toArray) := drawsEnd (A := X.A.in1) (I.ok.hd hc) it a its.toArray i (by simp; omega)
    exact wpAny_pyNext_enum_endD hD he ⟨rfl, hit, p⟩ fun h' eb => ⟨rfl, I.turned (t' := s.toks) (fun b o hb q => eb b o hb q) f0 f1 f3 f4 f5⟩
  self := fun A i s Q E st h => let ⟨⟨_, he⟩, _⟩ := st; wpAny_pyIter_enum he h
/-- enumerate over a list or a tuple -/
def iEnumLT (K : PySem.W.Frag) (ta : TA) : TI := fun σ H R => ta σ H fun vs H1 => ∃ a, vs = [.ref a] ∧ (((∃ xs, SqL K H1 a xs) ∧ R (Ite K a) H1) ∨ ((∃ xs, SqT K H1 a xs) ∧ R (IteT K a) H1))
theorem pi_enumLT {X : Cx} {e : Expr} {ta : TA} {p pos tpos : Pos} {elts : List Expr} {kk : Nat} (hg : Gl X "enumerate") (hm : X.mg "enumerate" = none) (ha : PA X [e] ta) (hs : starEach [e] X.env = [(false, eval e X.env)]) :
    PI X (.Tuple elts kk tpos) (.Call (.Name "enumerate" p) [e] [] pos) (iEnumLT X.K ta) := by
  refine ⟨fun pins s σ H R I h => ?_⟩
  refine Call_ (ld_blt I hg hm boot_enumerate (PyProof.Rows.callWith_type1 (thn (ha.run pos pins s σ H _ I h) fun us s1 ⟨vs, H1, I1, r1, q1⟩ => ?_) hs rfl))
  obtain ⟨a, ex, q⟩ := q1
  subst ex
  cases r1 with
  | cons r rr =>
    cases rr
    cases r
    rcases q with ⟨⟨xs, hq⟩, q⟩ | ⟨⟨xs, hq⟩, q⟩
    · obtain ⟨its, rv, p', hz⟩ := I1.list hq
      refine call_enumerate_list p'.isList fun h' he hit hsz hk => wpAny_pyIter_enum he ?_
      have I2 : Inv X pins σ H1 { s1 with heap := h' } := I1.kept (t' := s1.toks) hk
      refine ⟨s1.heap.objs.size + 1, [s1.heap.objs.size + 1, s1.heap.objs.size], _, _, H1, rfl, I2, turn_enum a (s1.heap.objs.size + 1) s1.heap.objs.size, ⟨⟨.none, he⟩, hit, Nat.succ_ne_self _⟩, fun b hb => ?_, q⟩
      have e' : b = s1.heap.objs.size + 1 ∨ b = s1.heap.objs.size := by simpa using hb
      have hle : s1.heap.objs.size ≤ b := by
        rcases e' with z | z
        · rw [z]; exact Nat.le_add_right _ _
        · rw [z]; exact Nat.le_refl _
      exact I1.fpOk hle (I1.hok.fresh hle)
    · obtain ⟨its, rv, p', hz⟩ := I1.tuple hq
      refine nx_call_enumT (show s1.heap.IsTuple a its.toArray from p') fun h' he hit hsz hk => wpAny_pyIter_enum he ?_
      have I2 : Inv X pins σ H1 { s1 with heap := h' } := I1.kept (t' := s1.toks) hk
      refine ⟨s1.heap.objs.size + 1, [s1.heap.objs.size + 1, s1.heap.objs.size], _, _, H1, rfl, I2, turn_enumT a (s1.heap.objs.size + 1) s1.heap.objs.size, ⟨⟨.none, he⟩, hit, Nat.succ_ne_self _⟩, fun b hb => ?_, q⟩
      have e' : b = s1.heap.objs.size + 1 ∨ b = s1.heap.objs.size := by simpa using hb
      have hle : s1.heap.objs.size ≤ b := by
        rcases e' with z | z
        · rw [z]; exact Nat.le_add_right _ _
        · rw [z]; exact Nat.le_refl _
      exact I1.fpOk hle (I1.hok.fresh hle)
/-! ### more operators on data -/
theorem op_inT {X : Cx} (hu : X.A.units + 65 < cLine) : OpR X (compareOp .In) (fun x y H Q => ∃ d ds, Dp X.K H x d ∧ Dp X.K H y (.tuple ds) ∧ SeqAt.shaped d = true ∧ SeqAt.shaped (.tuple ds) = true ∧ Q (.bl (ds.any fun z => PyData.eqv z d)) H) := by
  intro pins s σ H x y v u Q I rx ry h
  obtain ⟨d, ds, hd, he, sd, se, q⟩ := h
  obtain ⟨as, r1⟩ := Dp.reads I d x v hd rx
  obtain ⟨bs, r2⟩ := Dp.reads I (.tuple ds) y u he ry
  exact SeqAt.in_tuple_reads r2 r1 (SeqAt.canLay_of_shaped se) (SeqAt.canLay_of_shaped sd) (room_in_shaped sd hu) ⟨.bl _, H, I, rfl, q⟩
theorem op_notInT {X : Cx} (hu : X.A.units + 65 < cLine) : OpR X (compareOp .NotIn) (fun x y H Q => ∃ d ds, Dp X.K H x d ∧ Dp X.K H y (.tuple ds) ∧ SeqAt.shaped d = true ∧ SeqAt.shaped (.tuple ds) = true ∧ Q (.bl (!ds.any fun z => PyData.eqv z d)) H) := by
  intro pins s σ H x y v u Q I rx ry h
  obtain ⟨d, ds, hd, he, sd, se, q⟩ := h
  obtain ⟨as, r1⟩ := Dp.reads I d x v hd rx
  obtain ⟨bs, r2⟩ := Dp.reads I (.tuple ds) y u he ry
  exact SeqAt.notIn_tuple_reads r2 r1 (SeqAt.canLay_of_shaped se) (SeqAt.canLay_of_shaped sd) (room_in_shaped sd hu) ⟨.bl _, H, I, rfl, q⟩
/-- repr of data, where no repr is under way -/
theorem cr_repr {X : Cx} (hg : X.A.guards = some []) (hu : X.A.units + 66 < cLine) : CallR X (.builtin "repr") (fun vs H Q => ∃ v d, vs = [v] ∧ Dp X.K H v d ∧ PyData.showable d = true ∧ PyData.hasDict d = false ∧ PyData.depth d ≤ 64 ∧ (PyData.shown d).length ≤ sizeLine ∧ Q (.str (PyData.shown d)) H) := by
  intro pins s σ H xs us Q I r h
  obtain ⟨v, d, rfl, hd, h1, h2, h3, h4, q⟩ := h
  cases r with
  | cons rv rt =>
    rename_i u ut
    cases rt
    obtain ⟨as, rd⟩ := Dp.reads I d v u hd rv
    have fin : ∀ (x : Str) (tk t2 : Tok), x = PyData.shown d → EP X pins σ Q (.str x tk) { s with toks := t2 } := fun x tk t2 e => ⟨.str x, H, I.kept (t' := t2) (fun _ _ e => e), ⟨tk, rfl⟩, by rw [e]; exact q⟩
    cases hd with
    | non =>
      cases rv
      exact PySem.P.repr_of_none (fin _ _ _ rfl)
    | bl b =>
      cases rv
      exact PySem.P.repr_of_bool (fin _ _ _ rfl)
    | int i =>
      obtain ⟨t, rfl⟩ := rv
      exact PySem.P.repr_of_int (by simpa [PyData.showable] using h1) (fin _ _ _ rfl)
    | str x =>
      obtain ⟨t, rfl⟩ := rv
      exact PySem.P.repr_of_str (fin _ _ _ rfl) h4
    | lst a b =>
      cases rv
      exact repr_of_reads' rd h1 (PyData.noDict_hsm h2) hg (by omega) (fun _ _ e => e) (fun h' t tk hk => ⟨.str _, H, I.kept (t' := tk) hk, ⟨t, rfl⟩, q⟩) h4
    | tup a b =>
      cases rv
      exact repr_of_reads' rd h1 (PyData.noDict_hsm h2) hg (by omega) (fun _ _ e => e) (fun h' t tk hk => ⟨.str _, H, I.kept (t' := tk) hk, ⟨t, rfl⟩, q⟩) h4
end NW
end
section
set_option Elab.async false
set_option linter.all false
set_option maxRecDepth 100000
set_option maxHeartbeats 1000000
/-! NXg: promises where no repr is under way (so that repr of rows may be asked) -/
namespace NW
open PySem PySem.Spec PyProof.Rows L2
/-- room, and no repr under way -/
structure RoomG (k : Nat) (A : Around) : Prop where
  rm : Room k A
  gd : A.guards = some []
theorem RoomG.mono {j k : Nat} {A : Around} (r : RoomG k A) (h : j ≤ k) : RoomG j A := ⟨r.rm.mono h, r.gd⟩
theorem RoomG.down {k : Nat} {A : Around} (r : RoomG (k + 1) A) (env : PySem.Env) : RoomG k (A.deeper env) := ⟨r.rm.deeper env, r.gd⟩
section
variable {P : Program} {w : World} {K : PySem.W.Frag} {mg : Str → Option Value} {base : Heap}
/-- a def's promise -/
structure FnG (P : Program) (w : World) (K : PySem.W.Frag) (mg : Str → Option Value) (base : Heap) (k : Nat) (f : Addr) (fd : FuncData) (ps : List Str) (sp : Sp) : Prop where
  len : ∀ vs H Q E, sp vs H Q E → vs.length = ps.length
  run : ∀ (A : Around) (outer : List PySem.Env) (s : Shared) (H : Hp) (args : Args) (us : List Value) (vs : List V) (Q : VK) (E : XK), RoomG k A →
    Env0 P w K mg base A outer s H → BindsTo s fd args (ps.zip us) → Vals vs us → sp vs H Q E →
    codeAny (model P w) A (.call (.ref f) args) (CR (L2.CX P w) outer P w H s Q E) s
theorem FnG.mono {j k : Nat} {f : Addr} {fd : FuncData} {ps : List Str} {sp : Sp} (F : FnG P w K mg base j f fd ps sp) (h : j ≤ k) : FnG P w K mg base k f fd ps sp :=
  ⟨F.len, fun A outer s H args us vs Q E r => F.run A outer s H args us vs Q E (r.mono h)⟩
theorem FnG.imp {k : Nat} {f : Addr} {fd : FuncData} {ps : List Str} {sp sp2 : Sp} (F : FnG P w K mg base k f fd ps sp) (h : ∀ vs H Q E, sp2 vs H Q E → sp vs H Q E) : FnG P w K mg base k f fd ps sp2 :=
  ⟨fun vs H Q E q => F.len vs H Q E (h _ _ _ _ q), fun A outer s H args us vs Q E r e b v z => F.run A outer s H args us vs Q E r e b v (h _ _ _ _ z)⟩
/-- by its body -/
theorem fnG_of {x qual : Str} {st : Stmt} {f : Addr} {fd : FuncData} {N ps : List Str} {k : Nat} {sp : Sp} (F : Fun K x qual st f fd) (S : FnScope N ps (defScope st))
    (len : ∀ vs H Q E, sp vs H Q E → vs.length = ps.length)
    (hb : ∀ (cdv : Value) (A : Around) (outer : List PySem.Env) (s : Shared) (H : Hp) (vs : List V) (Q : VK) (E : XK), RoomG k (A.deeper (envOfC qual (defScope st) s.heap.objs.size f cdv)) → sp vs H Q E →
      ∃ t, PSs (cxOf (L2.CX P w) P w K mg base N qual (defScope st) f cdv A outer s H E) (defBody st) t ∧ t { nx := fun _ H2 => Q .non H2, rt := Q } (L2.start N vs) H) :
    FnG P w K mg base (k + 1) f fd ps sp := by
  obtain ⟨oc, od, kV, doc, pm, an, cdv, ct, osl, rfl, lk, hcd⟩ := F.ex
  refine ⟨len, fun A outer s H args us vs Q E rg e0 b r hsp => ?_⟩
  have KX : K.In s.heap := e0.mod.kin.keeps (fun c o z => (e0.bs c o z).1)
  have kinds : ∀ y ∈ ps.zip us, (defScope st).names.lookup y.1 = some .local ∨ ((defScope st).names.lookup y.1 = some .cell ∧ ((cellsFrom (s.heap.objs.size + 1) (defScope st).names []).lookup y.1).isSome = true) := by
    intro y hy
    cases S.par y.1 (List.of_mem_zip hy).1 with
    | inl q => exact .inl q
    | inr q => exact .inr ⟨q, PySem.W.cellsFrom_some _ _ _ (.inl q)⟩
  refine codeAny_call_function rg.rm.depth (KX _ _ lk) rfl S.co S.gen rfl (PySem.W.codeRec_of KX hcd) (b _ _ _ _ ?_)
  refine wpAny_newFunctionEnv_cells S.kind kinds (fun env he s1 z => ?_)
  subst he
  refine ⟨(e0.mod.nolimit.keeps (fun c o z => (e0.bs c o z).1)).keeps z.toInCall.keep, codeAny_func ?_⟩
  obtain ⟨t, ht, hq⟩ := hb cdv A outer s H vs Q E (rg.down _) hsp
  have I0 := inv_start (CX := L2.CX P w) (E := E) (N := N) S rg.rm.hd e0 (len _ _ _ _ hsp) r z
  refine wpAny_mono (ht.run [] s1 _ H _ I0 hq) (fun fl s2 h2 => ?_) (fun e s2 h2 => h2)
  cases fl with
  | ret u =>
    obtain ⟨v, σ2, H2, J, rv, q⟩ := h2
    exact ⟨v, H2, J.os, J.bare, J.base, J.hok, rv, q⟩
  | next =>
    obtain ⟨σ2, H2, J, q⟩ := h2
    exact ⟨.non, H2, J.os, J.bare, J.base, J.hok, rfl, q⟩
  | brk => exact h2.elim fun _ h => h.elim fun _ h => False.elim h.2
  | cont => exact h2.elim fun _ h => h.elim fun _ h => False.elim h.2
end
section
variable {X : Cx} {k : Nat} {f : Addr} {fd : FuncData} {ps : List Str} {sp : Sp} {E : L2.St → XK} {x : Str} {p pos : Pos} {e : Expr} {es : List Expr} {t : TA}
theorem run_fnG {pins : List (Addr × Obj)} {σ : L2.St} {H : Hp} {s : Shared} {Q : VK} {us : List Value} {vs : List V} (F : FnG X.prog X.w X.K X.mg X.base k f fd ps sp) (hr : RoomG k X.A) (hb : Binds X.K fd ps [])
    (hx : PassesAt (L2.CX X.prog X.w) X σ (E σ)) (I : Inv X pins σ H s) (r : Vals vs us) (h : sp vs H Q (E σ)) : wpAny (model X.prog X.w) X.A (call (.ref f) us) (EP X pins σ Q) X.xe s := by
  have hl : us.length = ps.length := by
    rw [← r.length]
    exact F.len _ _ _ _ h
  have b := hb s us I.kIn (by simpa using hl)
  rw [List.append_nil] at b
  refine wpAny_call (codeAny_mono (F.run X.A X.stack s H ⟨us, []⟩ us vs Q (E σ) hr I.env0 b r h) (fun z s2 hq => ?_))
  match z, hq with
  | .error e, hq => exact hx pins H s e s2 I hq
  | .ok (.ret u), hq => exact I.after hq
  | .ok .next, hq => exact False.elim hq
  | .ok .brk, hq => exact False.elim hq
  | .ok .cont, hq => exact False.elim hq
theorem pe_callG (F : FnG X.prog X.w X.K X.mg X.base k f fd ps sp) (hr : RoomG k X.A) (hg : Gl X x) (hm : X.mg x = some (.ref f)) (hk : PySem.W.keepIn X.K (.ref f) = true) (hb : Binds X.K fd ps [])
    (hx : ∀ σ, PassesAt (L2.CX X.prog X.w) X σ (E σ)) (ha : PA X (e :: es) t) (hdb : (x == ("__debug__" : Str)) = false) (he : starEach (e :: es) X.env = (false, eval e X.env) :: starEach es X.env) (hpl : (backTo pos (starEach es X.env)).any (·.1) = false) :
    PE X (.Call (.Name x p) (e :: es) [] pos) (tCallS sp E t) := ⟨fun pins s σ H Q I h =>
  wpAny_Call_Name_kw (ld_glob I hg hm (PySem.W.callWith_K (h₀ := X.base) I.ok.mod.kin hk (thn (ha.run pos pins s σ H _ I h) (fun us s1 ⟨vs, H1, I1, r, q⟩ => ⟨I1.kIn, run_fnG F hr hb (hx σ) I1 r q⟩)) he hpl) hdb)⟩
theorem pe_callG0 (F : FnG X.prog X.w X.K X.mg X.base k f fd ps sp) (hr : RoomG k X.A) (hg : Gl X x) (hm : X.mg x = some (.ref f)) (hk : PySem.W.keepIn X.K (.ref f) = true) (hb : Binds X.K fd ps [])
    (hx : ∀ σ, PassesAt (L2.CX X.prog X.w) X σ (E σ)) (hdb : (x == ("__debug__" : Str)) = false) : PE X (.Call (.Name x p) [] [] pos) (tCallS sp E tNil) := ⟨fun pins s σ H Q I h =>
  wpAny_Call_Name_kw (ld_glob I hg hm (PySem.W.callWith_K0 I.kIn hk (run_fnG (us := []) F hr hb (hx σ) I .nil h)) hdb)⟩
end
/-! ### the law's call -/
section
variable {P : Program} {w : World} {K : PySem.W.Frag} {mg mb : Str → Option Value} {k : Nat} {fa a : Addr} {fd : FuncData} {x : Str} {sp : Sp} {s1 : Shared} {vs : List Value} {ns : List Int}
theorem top_core (KX : K.In s1.heap) (hns : s1.heap.Ns mainGlobals mg) (hb : s1.heap.Ns builtinsNs mb) (hbb : ∀ x : Str, x ≠ "__name__" → mb x = bootBuiltins x) (hlim : s1.heap.NoLimit) (hg : s1.gens = #[])
    (ha : s1.heap.get? a = some { cls := .type "list", data := .seq vs.toArray }) (hr : Room k callerA)
    (F : ∀ base : Heap, K.In base → base.Ns mainGlobals mg → FnG P w K mg base k fa fd [x] sp) (hbind : ∀ (s : Shared) (u : Value), BindsTo s fd ⟨[u], []⟩ [(x, u)])
    {H : Hp} (hO : Only H) (hsp : sp [.ref a] H (fun v _ => v = .bl true) fun _ _ _ => False) (hok : HOk P w H s1.heap) (hA : ∀ b, H b ≠ none → b = a) (hK : H a ≠ none → K.lookup a = none) :
    codeAny (model P w) callerA (.call (.ref fa) ⟨[.ref a], []⟩) (fun r s2 => r = .ok (.ret (.bool true)) ∧ OldK s1.heap s2.heap ∧ s2.os = s1.os ∧ AllBare s2.gens) s1 := by
  have only : ∀ b, b ≠ a → H b = none := fun b hb => Classical.byContradiction fun z => hb (hA b z)
  have noA : ∀ {b : Addr} {o : Obj} {es : Array DictEntry} {ep : Nat}, s1.heap.get? b = some o → o.data = .dict es ep → H b = none := by
    intro b o es ep e d
    refine only b fun z => ?_
    rw [z, ha] at e
    cases e
    exact nomatch d
  have nsK : ∀ {b : Addr} {m : Str → Option Value}, s1.heap.Ns b m → (hidT s1.heap H).Ns b m := by
    rintro b m ⟨o, es, ep, e, d, r⟩
    exact ⟨o, es, ep, hidT_get e (noA e d), d, r⟩
  have hKb : K.In (hidT s1.heap H) := by
    intro b o e
    refine hidT_get (KX b o e) (Classical.byContradiction fun z => ?_)
    have q := hA b z
    rw [q] at e z
    rw [hK z] at e
    cases e
  obtain ⟨mc, l1, l2⟩ := hlim
  have hM : Mod K mg (hidT s1.heap H) := ⟨hKb, nsK hns, ⟨mb, nsK hb, hbb⟩, ⟨mc, nsK l1, l2⟩⟩
  have e0 : Env0 P w K mg (hidT s1.heap H) callerA [] s1 H := by
    refine ⟨rfl, hM, fun b o e => of_hidT e, Nat.le_of_eq (hidT_size _ _), trivial, fun b hb => ?_, hok, .of_eq hg⟩
    exact absurd (show b ∈ ([] : List Addr) from hb) (by simp)
  have run := (F _ hKb (nsK hns)).run callerA [] s1 H ⟨[.ref a], []⟩ [.ref a] [.ref a] _ _ ⟨hr, rfl⟩ e0 (hbind s1 (.ref a)) (.cons rfl .nil) hsp
  refine codeAny_mono run (fun r s2 h => ?_)
  match r, h with
  | .ok .next, h => exact False.elim h
  | .ok .brk, h => exact False.elim h
  | .ok .cont, h => exact False.elim h
  | .error e, h =>
    obtain ⟨_, _, _, _, _, _, _, _, _, _, _, _, z⟩ := h
    exact False.elim z
  | .ok (.ret u), h =>
    obtain ⟨v, H2, os, bare, un, hok2, rv, q⟩ := h
    have q : v = .bl true := q
    subst q
    obtain rfl : u = Value.bool true := rv
    refine ⟨rfl, OldK.of_keep (fun b o e => ?_), os, bare⟩
    cases q : H b with
    | none => exact un.keep b o e q (fun z => absurd (show b ∈ ([] : List Addr) from z) (by simp)) (by simp)
    | some u =>
      rcases hO b with z | ⟨ob, xs, z⟩
      · rw [z] at q
        cases q
      · obtain ⟨e1, _⟩ := hok b _ z
        obtain ⟨e2, _⟩ := hok2 b _ (un.frzs b ob _ z)
        rw [e1] at e
        cases e
        exact e2
theorem top_call (KX : K.In s1.heap) (hns : s1.heap.Ns mainGlobals mg) (hb : s1.heap.Ns builtinsNs mb) (hbb : ∀ x : Str, x ≠ "__name__" → mb x = bootBuiltins x) (hlim : s1.heap.NoLimit) (hg : s1.gens = #[])
    (ha : s1.heap.get? a = some { cls := .type "list", data := .seq vs.toArray }) (hi : IntsAre vs ns) (hl : ns.length ≤ sizeLine) (hr : Room k callerA)
    (F : ∀ base : Heap, K.In base → base.Ns mainGlobals mg → FnG P w K mg base k fa fd [x] sp) (hbind : ∀ (s : Shared) (u : Value), BindsTo s fd ⟨[u], []⟩ [(x, u)])
    (hsp : ∀ H : Hp, Only H → SqL K H a (ns.map V.int) → sp [.ref a] H (fun v _ => v = .bl true) fun _ _ _ => False) :
    codeAny (model P w) callerA (.call (.ref fa) ⟨[.ref a], []⟩) (fun r s2 => r = .ok (.ret (.bool true)) ∧ OldK s1.heap s2.heap ∧ s2.os = s1.os ∧ AllBare s2.gens) s1 := by
  have rv := vals_ints hi
  have lv := hi.length
  cases hk : K.lookup a with
  | some o =>
    have e := KX a o hk
    rw [ha] at e
    cases e
    have hO : Only (fun _ => none) := fun _ => .inl rfl
    have hS : SqL K (fun _ => none) a (ns.map V.int) := .inr ⟨_, vs.toArray, _, hk, rfl, rfl, rfl, by rw [List.size_toArray, lv]; exact hl, by simpa using rv⟩
    exact top_core KX hns hb hbb hlim hg ha hr F hbind hO (hsp _ hO hS) (fun b u z => by cases z) (fun b z => absurd rfl z) (fun z => absurd rfl z)
  | none =>
    let H : Hp := fun b => if b = a then some (.frz { cls := .type "list", data := .seq vs.toArray } (.lst (ns.map V.int))) else none
    have at_ : H a = some (.frz { cls := .type "list", data := .seq vs.toArray } (.lst (ns.map V.int))) := if_pos rfl
    have off : ∀ b, b ≠ a → H b = none := fun b z => if_neg z
    have hO : Only H := fun b => by
      by_cases z : b = a
      · exact .inr ⟨_, _, by rw [z]; exact at_⟩
      · exact .inl (off b z)
    have hS : SqL K H a (ns.map V.int) := .inl (.inr ⟨_, at_⟩)
    refine top_core KX hns hb hbb hlim hg ha hr F hbind hO (hsp _ hO hS) (fun b u z => ?_) (fun b z => Classical.byContradiction fun y => z (off b y)) (fun _ => hk)
    by_cases y : b = a
    · rw [y, at_] at z
      cases z
      rw [y]
      exact ⟨ha, by rw [List.length_map]; exact hl, vs, _, rv, ha⟩
    · rw [off b y] at z
      cases z
end
theorem top_walk {l : PySem.W.OpenLaw} {n k : Nat} {q : Program} {loose : List Str} {XP : (Str → Option Value) → Heap → Prop} {YP : World → Heap → Prop} {d : DefRec} {K : Params → PySem.W.Frag} {sp : (w : World) → (Str → Option Value) → Sp} {x : Str}
    (hn : l.most = some n) (hn2 : n ≤ sizeLine) (hdf : d.params.defaults = []) (hr : Room k callerA) (hY : ∀ (w : World) (h : Heap), YP w h → (K w.params).In h)
    (F : ∀ (w : World) (mg : Str → Option Value) (fa : Addr) (h : Heap), (K w.params).In h → h.Ns mainGlobals mg → mg d.name = some (.ref fa) →
      ∃ fd : FuncData, (∀ (s : Shared) (u : Value), BindsTo s fd ⟨[u], []⟩ [(x, u)]) ∧ ∀ base : Heap, (K w.params).In base → base.Ns mainGlobals mg → FnG l.prog w (K w.params) mg base k fa fd [x] (sp w mg))
    (hsp : ∀ (w : World) (mg : Str → Option Value) (H : Hp) (a : Addr) (ns : List Int), ns.length ≤ n → Only H → SqL (K w.params) H a (ns.map V.int) → sp w mg [.ref a] H (fun v _ => v = .bl true) fun _ _ _ => False) :
    PySem.W.WalkO q loose XP YP l.row.toRowW d [] (fun f vs => PySem.call f vs) := by
  refine Att.attach_call hn hdf (fun w s₀ s1 mg mb fa o pm cd doc a vs ns G Y ho hd hcd hmg hobj hints hlen hg => ?_)
  have KX := hY w _ Y
  obtain ⟨fd, hb, hF⟩ := F w mg fa _ KX G.T.g hmg
  exact top_call KX G.T.g G.T.b G.T.builtins G.T.nolimit hg hobj hints (Nat.le_trans hlen hn2) hr hF hb (fun H hO hS => hsp w mg H a ns hlen hO hS)
end NW
end
section
set_option Elab.async false
set_option linter.all false
set_option maxRecDepth 100000
set_option maxHeartbeats 1000000
/-! NXs: sorted over a list of data -/
namespace NW
open PySem L2 PyProof.Rows
section
variable {X : Cx} {pins : List (Addr × Obj)} {σ : L2.St} {H : Hp} {s : Shared}
theorem each_bs : ∀ {xs : List V} {its : List Value} {ds : List PyData}, Vals xs its → DpAll X.K H xs ds → PySem.W.EachIs (fun v (b : V × PyData) => RelV b.1 v ∧ Dp X.K H b.1 b.2) its (xs.zip ds) ∧ (xs.zip ds).map Prod.snd = ds
  | _, _, _, .nil, .nil => ⟨.nil, rfl⟩
  | _, _, _, .cons r rt, .cons h ht => by
    obtain ⟨h1, h2⟩ := each_bs rt ht
    exact ⟨.cons ⟨r, h⟩ h1, by rw [List.zip_cons_cons, List.map_cons, h2]⟩
theorem each_out : ∀ {out : List Value} {M : List (V × PyData)}, PySem.W.EachIs (fun v (b : V × PyData) => RelV b.1 v ∧ Dp X.K H b.1 b.2) out M → Vals (M.map Prod.fst) out
  | _, _, .nil => .nil
  | _, _, .cons h t => .cons h.1 (each_out t)
theorem zip_dp {K : PySem.W.Frag} {H : Hp} : ∀ {xs : List V} {ds : List PyData}, DpAll K H xs ds → ∀ b ∈ xs.zip ds, Dp K H b.1 b.2
  | _, _, .nil, b, hb => nomatch hb
  | _, _, .cons h t, b, hb => by
    rw [List.zip_cons_cons] at hb
    rcases List.mem_cons.mp hb with rfl | z
    · exact h
    · exact zip_dp t b z
theorem mem_dp {K : PySem.W.Frag} {H : Hp} : ∀ {M : List (V × PyData)}, (∀ b ∈ M, Dp K H b.1 b.2) → DpAll K H (M.map Prod.fst) (M.map Prod.snd)
  | [], _ => .nil
  | b :: M, h => .cons (h b (List.mem_cons_self)) (mem_dp fun c hc => h c (List.mem_cons_of_mem _ hc))
theorem cr_sortD (hu : X.A.units + 66 < cLine) : CallR X (.builtin "sorted") (fun vs H Q => ∃ (a : Addr) (xs : List V) (ds : List PyData), vs = [V.ref a] ∧ SqL X.K H a xs ∧ DpAll X.K H xs ds ∧ PySem.W.AllAlike ds ∧ PySem.W.Sortable ds ∧ (∀ d ∈ ds, PyData.depth d ≤ 60) ∧
    ∀ ys p, (∀ H', DpAll X.K H' xs ds → DpAll X.K H' ys (ds.mergeSort (PySem.W.dataLe false id))) → H p = none → Q (.ref p) (upd H p (.lst ys))) := by
  intro pins s σ H vs us Q I r h
  obtain ⟨a, xs, ds, rfl, hs, hd, ha, hk, hdp, q⟩ := h
  obtain ⟨its, rv, hl, hz⟩ := I.list hs
  obtain ⟨u, rfl, ru⟩ := vals1 r
  obtain rfl : u = Value.ref a := ru
  obtain ⟨e1, e2⟩ := each_bs (X := X) rv hd
  have er : PySem.W.EachIs (fun v (b : V × PyData) => ∃ as, Reads s.heap v b.2 as) its (xs.zip ds) := e1.mono fun v b ⟨h1, h2⟩ => Dp.reads I b.2 b.1 v h2 h1
  have hlen : (xs.zip ds).length = its.length := e1.length.symm
  have hxl := rv.length
  refine PySem.W.sorted_data (enc := Prod.snd) hl.isList e1 er (by rw [e2]; exact ha) (by rw [e2]; exact hk) (by rw [hlen, ← hxl]; exact hz) (fun b hb => ?_) fun out ho eo => ?_
  · have hm : b.2 ∈ ds := by
      rw [← e2]
      exact List.mem_map.mpr ⟨b, hb, rfl⟩
    have := hdp _ hm
    omega
  · have v1 := each_out (X := X) eo
    have hM : ((xs.zip ds).mergeSort (PySem.W.dataLe false Prod.snd)).map Prod.snd = ds.mergeSort (PySem.W.dataLe false id) :=
      (List.map_mergeSort (r := PySem.W.dataLe false Prod.snd) (s := PySem.W.dataLe false id) (f := Prod.snd) (fun a _ b _ => rfl)).trans (by rw [e2])
    obtain ⟨c, hc⟩ := sortedAll_at s.heap its out.toArray
    have hnew : ObjOk X.prog X.w (upd H (s.heap.objs.size + 1) (.lst (((xs.zip ds).mergeSort (PySem.W.dataLe false Prod.snd)).map Prod.fst))) (sortedAll s.heap its out.toArray) (s.heap.objs.size + 1) (.lst (((xs.zip ds).mergeSort (PySem.W.dataLe false Prod.snd)).map Prod.fst)) := by
      refine ⟨?_, out, c, v1, hc⟩
      rw [v1.length, ho, hlen, ← hxl]
      exact hz
    refine ⟨.ref (s.heap.objs.size + 1), _, I.laid (t' := s.toks) (fun _ _ => sortedAll_old) (Nat.le_succ _) hnew, rfl, q _ _ (fun H' hd' => ?_) (I.hok.fresh (Nat.le_succ _))⟩
    rw [← hM]
    exact mem_dp fun b hb => zip_dp hd' b (List.mem_mergeSort.mp hb)
end
end NW
end
section
set_option Elab.async false
set_option linter.all false
set_option maxRecDepth 100000
set_option maxHeartbeats 3200000
/-! NXv: set(a list of ints) -/
namespace NW
open PySem L2 PyProof.Rows
section
variable {P : Program} {w : World} {A : Around} {E : Value → Shared → Prop} {s : Shared}
abbrev setZ (w : World) : Obj := { cls := .type "set", dict := none, data := .set #[] 0 (.fresh 0 0 (!w.params.followText "set-order")) }
/-- set.__init__ of a list of ints, on the new set at S -/
theorem set_init_list {l S : Addr} {items : Array Value} (ns : List Int) {R : Result → Shared → Prop} (hh : A.handled = none) (hS : s.heap.get? S = some (setZ w)) (hl : s.heap.IsList l items) (hne : S ≠ l) (hit : IntsAre items.toList ns) (hb : ns.length + 1 < scanBound)
    (h : ∀ (h' : Heap) (tk c : Nat), SetR w h' S (fun j => decide (j ∈ ns)) c → c ≤ ns.length → (∀ b o, b ≠ S → s.heap.get? b = some o → h'.get? b = some o) → R (.ok (.ret .none)) { s with heap := h', toks := tk }) :
    wpAny (model P w) A.in1 (Builtin.«set.__init__» ⟨[.ref S, .ref l], []⟩) (fun fin s' => match fin with | .done f => R (.ok f) s' | .again c' => c'.quiet = true ∧ codeAny (model P w) A c' R s') (fun e s' => R (.error e) s') s := by
  have hT : s.TypeIs (.ref S) "set" := ⟨_, hS, rfl⟩
  have hisz : items.size = ns.length := by
    have q := IntsAre.length hit
    rwa [Array.length_toList] at q
  have hl0 := hl
  obtain ⟨⟨ocls, odict, odata, oslots⟩, hol, hcl, nl, hdl⟩ := hl0
  simp only at hcl hdl
  subst hcl; subst hdl
  have hsls := F.sub_list_set
  have hslf := F.sub_list_frozenset
  have hnd : (Value.type "list" == Value.type "dict") = false := by decide
  unfold Builtin.«set.__init__» noKeywords Builtin.Frozenset.updateFrom
  generalize hPI : pyIter = PI
  wp_walk
  subst hPI
  refine wpAny_pyIter_list hl ?_
  refine wpAny_bind (wpAny_runValue ?_)
  have hlS : l < s.heap.objs.size := Heap.lt_size hol
  have hSS : S < s.heap.objs.size := Heap.lt_size hS
  have hval : ∀ (i : Nat) (v : Value), items[i]? = some v → ∃ k t, ns[i]? = some k ∧ v = .int k t := fun i v hv => by
    have hi : i < ns.length := by rw [← hisz]; exact (Array.getElem?_eq_some_iff.mp hv).1
    obtain ⟨t, e⟩ := PyProof.Rows.IntsAre.int_at hit i v (by rw [Array.getElem?_toList]; exact hv)
    exact ⟨ns[i], t, List.getElem?_eq_getElem hi, by rw [e, List.getD_eq_getElem?_getD, List.getElem?_eq_getElem hi] <;> rfl⟩
  have hh3 : A.in1.in1.handled = none := by simp [hh]
  refine set_update_ints ((Walks.list hh3 s.heap.objs.size l (Nat.ne_of_lt hlS) items).toS) S ?_ ns hisz hb hval (items.size - 0) 0 _ (by omega) (Nat.zero_le _) ⟨⟨_, Heap.get?_push_size _ rfl, rfl, rfl⟩, hl.push _⟩ ⟨0, Nat.le_refl 0, setR_new_at (Heap.get?_push_of_some _ hS)⟩ fun s' c hm hc hR => ?_
  · simp only [List.mem_cons, List.mem_singleton, List.not_mem_nil, or_false, not_or]
    exact ⟨Nat.ne_of_lt hSS, hne⟩
  · obtain ⟨h', g2, d', tk', os'⟩ := s'
    have eg : g2 = s.gens := hm.gens
    have ed : d' = s.drawn := hm.drawn
    have eo : os' = s.os := hm.os
    subst eg; subst ed; subst eo
    refine wpAny_pure ?_
    rw [hisz] at hc
    refine wpAny_pure ?_
    exact h h' tk' c hR hc fun b o hbS e => hm.heap b o (by simp only [List.mem_cons, List.mem_singleton, List.not_mem_nil, or_false, not_or]; exact ⟨hbS, Nat.ne_of_lt (Heap.lt_size e)⟩) (Heap.get?_push_of_some _ e)
/-- T(..): the new object, then its __init__ whose check is told apart -/
theorem call_made {T newId initId : String} {args : List Value} {Q Q₁ : Value → Shared → Prop} (ft : TypeCalled T newId initId) (hct : checkTypeCall T ⟨args, []⟩ = pure ()) (hnew : codeAny (model P w) A.in1 (.call (.builtin newId) ⟨.type T :: args, []⟩) (wants Q₁ E) s)
    (hnext : ∀ obj s₁, Q₁ obj s₁ → s₁.TypeIs obj T ∧ codeAny (model P w) A.in1 (.call (.builtin initId) ⟨obj :: args, []⟩) (wants (fun r s₂ => r = .none ∧ Q obj s₂) E) s₁) : wpAny (model P w) A (call (.type T) args) Q E s := by
  obtain ⟨c, tl, hmro⟩ := ft.mro
  have m1 := ft.made
  have m2 := ft.sub
  have m3 := ft.notType
  have m4 := ft.canCreate
  refine wpAny_call (codeAny_of_tree ?_)
  show wpAny _ _ (callAny (.type T) _) _ _ _
  refine wpAny_pure ⟨Code.quiet_builtin _ (by decide +kernel), codeAny_builtin F.entry_type_call ?_⟩
  rw [Around.under_plain (weight_type_call_type T args []) rfl]
  repeat (any_goals (first | assumption | wp_step))
  refine codeAny_mono hnew fun r s₁ hr => ?_
  match r, hr with
  | .error e, hr => exact hr
  | .ok (.ret obj), hr =>
    obtain ⟨hT, hi⟩ := hnext _ _ hr
    have n1 := ft.init.lookup
    have n2 := ft.init.bind obj
    repeat (any_goals (first | assumption | wp_step))
    refine codeAny_mono hi fun r₂ s₂ hr₂ => ?_
    match r₂, hr₂ with
    | .error e, hr₂ => exact hr₂
    | .ok (.ret r), hr₂ =>
      obtain ⟨rfl, hq⟩ := hr₂
      repeat (any_goals (first | assumption | wp_step))
theorem call_set_listI {l : Addr} {items : Array Value} (ns : List Int) {Q : Value → Shared → Prop} (hh : A.handled = none) (hl : s.heap.IsList l items) (hit : IntsAre items.toList ns) (hb : ns.length + 1 < scanBound)
    (h : ∀ (h' : Heap) (tk c : Nat), SetR w h' s.heap.objs.size (fun j => decide (j ∈ ns)) c → c ≤ ns.length → (∀ b o, s.heap.get? b = some o → h'.get? b = some o) → Q (.ref s.heap.objs.size) { s with heap := h', toks := tk }) :
    wpAny (model P w) A (call (.type "set") [.ref l]) Q E s := by
  refine call_made F.called_set (F.typeCall_set_1 _) (Q₁ := fun obj s₁ => obj = .ref s.heap.objs.size ∧ s₁ = { s with heap := s.heap.push (setZ w) }) (code_set_led1 (.ref l) ⟨rfl, rfl⟩) fun obj s₁ hr => ?_
  obtain ⟨rfl, rfl⟩ := hr
  have hS : (s.heap.push (setZ w)).get? s.heap.objs.size = some (setZ w) := Heap.get?_push_size _ rfl
  have hlt : l < s.heap.objs.size := by
    obtain ⟨o, ho, _⟩ := hl
    exact Heap.lt_size ho
  refine ⟨⟨_, hS, rfl⟩, codeAny_call_builtin F.called_set.init.plain F.entry_set_init (check_set_init_1 ⟨_, hS, rfl⟩ (set_init_list (A := A.in1) (s := { s with heap := s.heap.push (setZ w) }) ns (by simp [hh]) hS (hl.push _) (Nat.ne_of_gt hlt) hit hb fun h' tk c r hc k => ?_))⟩
  exact ⟨rfl, h h' tk c r hc fun b o e => k b o (Nat.ne_of_lt (Heap.lt_size e)) (Heap.get?_push_of_some _ e)⟩
end
section
variable {X : Cx}
/-- set(x), x a tuple or a list of ints -/
theorem cr_setI (hc : X.calm = true) : CallR X (.type "set") (fun vs H Q => ∃ (a : Addr) (ns : List Int), vs = [V.ref a] ∧ (SqL X.K H a (ns.map V.int) ∨ SqT X.K H a (ns.map V.int)) ∧ ns.length ≤ 1000 ∧ ∀ p n, n ≤ ns.length → H p = none → Q (.ref p) (upd H p (SetO X.w p (fun j => decide (j ∈ ns)) n))) := by
  intro pins s σ H vs us Q I r h
  obtain ⟨a, ns, rfl, hs, hn, q⟩ := h
  rw [Vals.ref1 r]
  have fin : ∀ (h' : Heap) (tk c : Nat), SetR X.w h' s.heap.objs.size (fun j => decide (j ∈ ns)) c → c ≤ ns.length → (∀ b o, s.heap.get? b = some o → h'.get? b = some o) → EP X pins σ Q (.ref s.heap.objs.size) { s with heap := h', toks := tk } := fun h' tk c R hcn k =>
    ⟨.ref _, upd H s.heap.objs.size (SetO X.w s.heap.objs.size (fun j => decide (j ∈ ns)) c), I.laid (t' := tk) k (Nat.le_refl _) (setO_new R), rfl, q _ c hcn (I.hok.fresh (Nat.le_refl _))⟩
  rcases hs with hs | hs
  · obtain ⟨its, rv, hl, _⟩ := I.list hs
    exact call_set_listI ns (I.ok.hd hc) hl.isList (show IntsAre its.toArray.toList ns from ints_of_vals rv) (by unfold scanBound; omega) fin
  · obtain ⟨its, rv, pt, _⟩ := I.tuple hs
    exact call_set_tupI ns (I.ok.hd hc) (show s.heap.IsTuple a its.toArray from pt) (show IntsAre its.toArray.toList ns from ints_of_vals rv) (by unfold scanBound; omega) fin
/-- the members, ascending, each once -/
def insI (x : Int) : List Int → List Int
  | [] => [x]
  | y :: r => if x < y then x :: y :: r else if x = y then y :: r else y :: insI x r
def setI : List Int → List Int
  | [] => []
  | x :: r => insI x (setI r)
theorem insI_mem {x k : Int} : ∀ {l : List Int}, k ∈ insI x l ↔ k = x ∨ k ∈ l
  | [] => by simp [insI]
  | y :: r => by
    unfold insI
    split
    · simp
    · split
      · rename_i e; subst e; simp
      · simp only [List.mem_cons, insI_mem (l := r)]
        constructor
        · rintro (h | h | h)
          · exact .inr (.inl h)
          · exact .inl h
          · exact .inr (.inr h)
        · rintro (h | h | h)
          · exact .inr (.inl h)
          · exact .inl h
          · exact .inr (.inr h)
theorem setI_mem {k : Int} : ∀ {l : List Int}, k ∈ setI l ↔ k ∈ l
  | [] => Iff.rfl
  | x :: r => by unfold setI; rw [insI_mem, setI_mem, List.mem_cons]
theorem insI_asc {x : Int} : ∀ {l : List Int}, l.Pairwise (· < ·) → (insI x l).Pairwise (· < ·)
  | [], _ => by simp [insI]
  | y :: r, h => by
    unfold insI
    rw [List.pairwise_cons] at h
    split
    · rename_i hlt
      refine List.pairwise_cons.mpr ⟨fun z hz => ?_, List.pairwise_cons.mpr h⟩
      rcases List.mem_cons.mp hz with rfl | hz
      · exact hlt
      · have := h.1 z hz; omega
    · split
      · exact List.pairwise_cons.mpr h
      · refine List.pairwise_cons.mpr ⟨fun z hz => ?_, insI_asc h.2⟩
        rcases insI_mem.mp hz with rfl | hz
        · omega
        · exact h.1 z hz
theorem setI_asc : ∀ {l : List Int}, (setI l).Pairwise (· < ·)
  | [] => List.Pairwise.nil
  | x :: r => insI_asc setI_asc
theorem asc_eq : ∀ {a b : List Int}, a.Pairwise (· < ·) → b.Pairwise (· < ·) → (∀ k, k ∈ a ↔ k ∈ b) → a = b
  | [], [], _, _, _ => rfl
  | [], y :: b, _, _, h => absurd ((h y).mpr List.mem_cons_self) (by simp)
  | x :: a, [], _, _, h => absurd ((h x).mp List.mem_cons_self) (by simp)
  | x :: a, y :: b, ha, hb, h => by
    rw [List.pairwise_cons] at ha hb
    have e : x = y := by
      rcases List.mem_cons.mp ((h x).mp List.mem_cons_self) with e | e
      · exact e
      · rcases List.mem_cons.mp ((h y).mpr List.mem_cons_self) with e2 | e2
        · exact e2.symm
        · have := hb.1 _ e; have := ha.1 _ e2; omega
    subst e
    rw [asc_eq ha.2 hb.2 fun k => ?_]
    constructor
    · intro hk
      rcases List.mem_cons.mp ((h k).mp (List.mem_cons_of_mem _ hk)) with e | e
      · have := ha.1 _ hk; omega
      · exact e
    · intro hk
      rcases List.mem_cons.mp ((h k).mpr (List.mem_cons_of_mem _ hk)) with e | e
      · have := hb.1 _ hk; omega
      · exact e
end
end NW
end
section
set_option Elab.async false
set_option linter.all false
set_option maxRecDepth 100000
set_option maxHeartbeats 2000000
/-! NXm: a list a number of times; a tuple once -/
namespace L2
open PySem PySem.Spec PyProof.Rows
theorem tuple_mul1 (l : Addr) (items : Array Value) (n : Nat) (dd : Option Addr) (sl : Array (Option Value)) (x : Int) (u : Tok) (c0 : (decide (x < -(2 ^ 63)) || decide (x ≥ 2 ^ 63)) = false) (c1 : (items.isEmpty || x == 1) = true) :
    Meets (Builtin.«tuple.__mul__» ⟨[.ref l, .int x u], []⟩) (fun _ R s => s.heap.get? l = some { cls := .type "tuple", dict := dd, data := .seq items n, slots := sl } ∧ R (.ok (.ret (Value.ref l))) s) :=
  .of_wp fun prog w A R s h => by
    obtain ⟨hp, g, d, tk, os⟩ := s
    obtain ⟨hl, h⟩ := h
    have f1 := AutoSeq1.idx_int
    wp_walk using wpAny_loadPart' hl
    repeat (first
      | (refine wpAny_ite_false (decide_eq_false (by rw [c0]; exact Bool.false_ne_true)) ?_; wp_walk using wpAny_loadPart' hl)
      | (refine wpAny_ite_true (decide_eq_true (by rw [c1])) ?_; wp_walk using wpAny_loadPart' hl)
      | (refine wpAny_ite_true (by rw [c1]) ?_; wp_walk using wpAny_loadPart' hl))
    all_goals exact ⟨_, rfl, h⟩
def rRepT1 (K : PySem.W.Frag) : R2 := fun x y H Q => ∃ l k xs, x = .ref l ∧ y = .int k ∧ SqT K H l xs ∧ (xs = [] ∨ k = 1) ∧ -1000 ≤ k ∧ k ≤ 1000 ∧ Q (.ref l) H
section
variable {X : Cx}
theorem op_repT1 : OpR X (binaryOp .Mult) (rRepT1 X.K) := by
  intro pins s σ H x y v u Q I rx ry h
  obtain ⟨l, k, xs, rfl, rfl, hT, hne, h1, h2, q⟩ := h
  cases rx
  obtain ⟨t, rfl⟩ := ry
  obtain ⟨its, r, ⟨⟨cls, dd, data, sl⟩, ho, hc, n, hd⟩, hs⟩ := I.tuple hT
  simp only at hc hd
  subst hc hd
  have hle : its.length = xs.length := r.length.symm
  have c0 : (decide (k < -(2 ^ 63)) || decide (k ≥ 2 ^ 63)) = false := by
    rw [decide_eq_false (by omega), decide_eq_false (by omega)] <;> rfl
  have c1 : (its.toArray.isEmpty || k == 1) = true := by
    rcases hne with rfl | rfl
    · have : its = [] := List.eq_nil_of_length_eq_zero hle
      subst this; rfl
    · simp
  exact wpAny_binaryOp_repeat_ref (T := "tuple") (U := "int") (by decide) ⟨_, ho, rfl⟩ (fun s' => typeIs_int s' k t) noFill_tuple_mul F.fills_int_mul F.slot_int_rmul repeat_tuple F.slot_int_index.lookup
    (call_meets F.slot_int_rmul (typeIs_int s k t) F.entry_int_rmul (F.args_int_rmul_2 _ _) (int_rmul_tuple k t l its.toArray n dd sl)
      ⟨ho, rfl, ⟨_, ho, rfl⟩, call_meets F.slot_tuple_mul ⟨_, ho, rfl⟩ F.entry_tuple_mul (F.args_tuple_mul_2 _ _) (tuple_mul1 l its.toArray n dd sl k t c0 c1) ⟨ho, ⟨.ref l, H, I, rfl, q⟩⟩⟩)
theorem tuple_mul0 (l : Addr) (items : Array Value) (n : Nat) (dd : Option Addr) (sl : Array (Option Value)) (u : Tok) (c1 : items.isEmpty = false) :
    Meets (Builtin.«tuple.__mul__» ⟨[.ref l, .int 0 u], []⟩) (fun _ R s => s.heap.get? l = some { cls := .type "tuple", dict := dd, data := .seq items n, slots := sl } ∧
      R (.ok (.ret (Value.ref s.heap.objs.size))) { s with heap := s.heap.push { cls := Value.type "tuple", data := Data.seq #[] }, toks := s.toks }) :=
  .of_wp fun prog w A R s h => by
    obtain ⟨hp, g, d, tk, os⟩ := s
    obtain ⟨hl, h⟩ := h
    have f1 := AutoSeq1.idx_int
    have c0 : (decide ((0 : Int) < -(2 ^ 63)) || decide ((0 : Int) ≥ 2 ^ 63)) = false := by decide
    have c1' : (items.isEmpty || (0 : Int) == 1) = false := by rw [c1]; rfl
    have c2 : (decide ((0 : Int) ≤ 0) || items.isEmpty) = true := rfl
    wp_walk using wpAny_loadPart' hl
    repeat (first
      | (refine wpAny_ite_false (decide_eq_false (by rw [c0]; exact Bool.false_ne_true)) ?_; wp_walk using wpAny_loadPart' hl)
      | (refine wpAny_ite_false (decide_eq_false (by rw [c1']; exact Bool.false_ne_true)) ?_; wp_walk using wpAny_loadPart' hl)
      | (refine wpAny_ite_true (decide_eq_true (by rw [c2])) ?_; wp_walk using wpAny_loadPart' hl)
      | (refine wpAny_ite_true (by rw [c2]) ?_; wp_walk using wpAny_loadPart' hl))
    all_goals exact ⟨_, rfl, h⟩
/-- a tuple no time -/
def rRepT0 (K : PySem.W.Frag) : R2 := fun x y H Q => ∃ l xs, x = .ref l ∧ y = .int 0 ∧ SqT K H l xs ∧ xs ≠ [] ∧ ∀ p, H p = none → Q (.ref p) (upd H p (.tup []))
section
variable {X : Cx}
theorem op_repT0 : OpR X (binaryOp .Mult) (rRepT0 X.K) := by
  intro pins s σ H x y v u Q I rx ry h
  obtain ⟨l, xs, rfl, rfl, hT, hne, q⟩ := h
  cases rx
  obtain ⟨t, rfl⟩ := ry
  obtain ⟨its, r, ⟨⟨cls, dd, data, sl⟩, ho, hc, n, hd⟩, hs⟩ := I.tuple hT
  simp only at hc hd
  subst hc hd
  have hle : its.length = xs.length := r.length.symm
  have c1 : its.toArray.isEmpty = false := by
    cases its with
    | nil => exact absurd (List.eq_nil_of_length_eq_zero hle.symm) hne
    | cons a b => rfl
  exact wpAny_binaryOp_repeat_ref (T := "tuple") (U := "int") (by decide) ⟨_, ho, rfl⟩ (fun s' => typeIs_int s' 0 t) noFill_tuple_mul F.fills_int_mul F.slot_int_rmul repeat_tuple F.slot_int_index.lookup
    (call_meets F.slot_int_rmul (typeIs_int s 0 t) F.entry_int_rmul (F.args_int_rmul_2 _ _) (int_rmul_tuple 0 t l its.toArray n dd sl)
      ⟨ho, rfl, ⟨_, ho, rfl⟩, call_meets F.slot_tuple_mul ⟨_, ho, rfl⟩ F.entry_tuple_mul (F.args_tuple_mul_2 _ _) (tuple_mul0 l its.toArray n dd sl t c1) ⟨ho, ⟨.ref s.heap.objs.size, upd H s.heap.objs.size (.tup []), I.laid (t' := s.toks) (fun b o e => Heap.get?_push_of_some _ e) (Nat.le_refl _) ⟨by rw [sizeLine_eq]; simp, [], .nil, _, Heap.get?_push_size _ rfl, rfl, 0, rfl⟩, rfl, q _ (I.hok.fresh (Nat.le_refl _))⟩⟩⟩)
end
def rRepL (K : PySem.W.Frag) : R2 := fun x y H Q => ∃ l k xs, x = .ref l ∧ y = .int k ∧ SqL K H l xs ∧ 0 ≤ k ∧ k ≤ 1000 ∧ xs.length ≤ 1000 ∧ ∀ p, H p = none → Q (.ref p) (upd H p (.lst (List.replicate k.toNat xs).flatten))
theorem op_repL : OpR X (binaryOp .Mult) (rRepL X.K) := by
  intro pins s σ H x y v u Q I rx ry h
  obtain ⟨a, k, xs, rfl, rfl, hs, h0, h2, hz, q⟩ := h
  obtain rfl : v = Value.ref a := rx
  obtain ⟨t, rfl⟩ := ry
  obtain ⟨its, rv, ⟨⟨cls, dd, data, sl⟩, n, ho, hc, hdn, hd⟩, hlen⟩ := I.list hs
  have hc1 : cls = Value.type "list" := hc
  have hd1 : data = Data.seq its.toArray n := hd
  subst hc1 hd1
  have hle : its.length = xs.length := rv.length.symm
  have hsl := sizeLine_eq
  have hm : its.toArray.size * k.toNat ≤ 1000 * 1000 := by
    rw [List.size_toArray, hle]
    exact Nat.mul_le_mul hz (by omega)
  refine wpAny_binaryOp_repeat_ref (T := "list") (U := "int") (by decide) ⟨_, ho, rfl⟩ (fun s' => typeIs_int s' k t) noFill_list_mul F.fills_int_mul F.slot_int_rmul repeat_list F.slot_int_index.lookup
    (call_meets F.slot_int_rmul (typeIs_int s k t) F.entry_int_rmul (F.args_int_rmul_2 _ _) (lm_int_rmul_list_any k t a its.toArray n dd sl)
      ⟨ho, rfl, ⟨_, ho, rfl⟩, call_meets F.slot_list_mul ⟨_, ho, rfl⟩ F.entry_list_mul (F.args_list_mul_2 _ _)
        (lm_list_mul_any a its.toArray n dd sl k t (by
          unfold Builtin.List.listFitsIndex
          simp
          omega) (by omega) (by simp only [Builtin.List.listTooLong, decide_eq_true_eq]; omega))
        ⟨ho, ?_⟩⟩)
  have e : List.foldl (fun x1 x2 => x1 ++ x2) #[] (List.replicate (if its.toArray.isEmpty = true then 0 else k.toNat) its.toArray) = ((List.replicate k.toNat its).flatten).toArray := by
    rw [listMul_foldl_if]
  rw [e]
  refine ⟨.ref s.heap.objs.size, upd H s.heap.objs.size (.lst (List.replicate k.toNat xs).flatten), I.laid (t' := s.toks) (fun b o e => Heap.get?_push_of_some _ e) (Nat.le_refl _) ⟨?_, _, 0, rv.rep k.toNat, Heap.get?_push_size _ rfl⟩, rfl, q _ (I.hok.fresh (Nat.le_refl _))⟩
  rw [PyProof.Rows.lm_len_rep_flat, hsl]
  have a1 : k.toNat * xs.length ≤ 1000 * 1000 := Nat.mul_le_mul (by omega) hz
  omega
end
end L2
end
section
set_option Elab.async false
set_option linter.all false
set_option maxRecDepth 100000
set_option maxHeartbeats 2000000
/-! NXe: an own exception whose __init__ is: super().__init__("..") ; self.f = p -/
namespace L2
open PySem PySem.Spec PyProof.Rows NdefX
/-- the method-wrapper u of ValueError.__init__ and the exception a is called -/
theorem wrap_call {X : Cx} {pins : List (Addr × Obj)} {σ : St} {H : Hp} {s : Shared} {a C u : Addr} {us : List Value} {E : Value → Shared → Prop} {Q : Value → Shared → Prop} (T : OexC X.K C) (I : Inv X pins σ H s) (e : H a = some (exo a C none)) (hu : s.heap.get? u = some (PySem.W.kxs_mw "ValueError.__init__" a)) (hl : us.length ≤ sizeLine)
    (h : ∀ s', Inv X pins σ H s' → Q .none s') : wpAny (model X.prog X.w) X.A (call (.ref u) us) Q E s := by
  obtain ⟨nm, q, N, bs, bm, sn, sub, ab, col, dd, k0, k1, k2, k3, k5, hC, hbm⟩ := T.cls
  obtain ⟨t1, ho⟩ := exo_at I.hok e
  obtain ⟨hp, g, d, t, os⟩ := s
  refine wpAny_call (codeAny_of_tree ?_)
  show wpAny _ X.A.in1 (callAny (.ref u) ⟨us, []⟩) _ _ _
  unfold callAny
  refine wpAny_bind (wpAny_load hu ?_)
  have two : (Value.type "method-wrapper" == Value.type "method" || Value.type "method-wrapper" == Value.type "builtin_function_or_method" || Value.type "method-wrapper" == Value.type "method-wrapper") = true := by decide
  simp only [PySem.W.kxs_mw, two, if_true]
  refine PySem.W.KFB.if_so (by decide) ?_
  refine wpAny_bind (PySem.W.check_bound_init PySem.F.excBase_ValueError.toExcCallFacts (I.kIn _ _ hC) ho rfl ?_)
  refine wpAny_bind (wpAny_pure (wpAny_pure ?_))
  refine ⟨plainId_quiet PySem.F.excBase_ValueError.init.plain _, codeAny_builtin PySem.F.excBase_ValueError.initEntry ?_⟩
  refine PySem.W.exc_init_tree (cls := .ref C) (t0 := t1) (dv := none) (c2 := .none) (c3 := .none) (b4 := .bool false) ho hl fun h' k hx _ => ?_
  have J := I.write (t' := t) (x := a) (e := a) (o := exo a C none) (by rw [e]; exact True.intro) (.inl rfl) k ⟨_, hx⟩ (exo_ok hx)
  have eu : upd H a (exo a C none) = H := by
    funext b
    by_cases hb : b = a
    · rw [hb, upd_same, e]
    · rw [upd_ne hb]
  rw [eu] at J
  exact h _ J
theorem pin_add {X : Cx} {pins : List (Addr × Obj)} {σ : St} {H : Hp} {s : Shared} {u : Addr} {o : Obj} (I : Inv X pins σ H s) (hu : s.heap.get? u = some o) (hn : H u = none) (nl : u ≠ X.env.locals) (nf : u ∉ X.fs) (nc : ∀ v, o.data ≠ .cell v) : Inv X ((u, o) :: pins) σ H s := by
  obtain ⟨a1, a2, a3, a4, a5, a6, a7, a8, a9, a10, a11⟩ := I
  refine ⟨a1, a2, a3, a4, a5, a6, a7, a8, fun p hp => ?_, a10, a11⟩
  rcases List.mem_append.mp hp with z | z
  · exact a9 p (List.mem_append_left _ z)
  · rcases List.mem_cons.mp z with rfl | z
    · exact ⟨hu, hn, nl, nf, nc⟩
    · exact a9 p (List.mem_append_right _ z)
theorem pin_del {X : Cx} {pins : List (Addr × Obj)} {q : Addr × Obj} {σ : St} {H : Hp} {s : Shared} (I : Inv X (q :: pins) σ H s) : Inv X pins σ H s := by
  obtain ⟨a1, a2, a3, a4, a5, a6, a7, a8, a9, a10, a11⟩ := I
  refine ⟨a1, a2, a3, a4, a5, a6, a7, a8, fun p hp => ?_, a10, a11⟩
  rcases List.mem_append.mp hp with z | z
  · exact a9 p (List.mem_append_left _ z)
  · exact a9 p (List.mem_append_right _ (List.mem_cons_of_mem _ z))
theorem pin_at {X : Cx} {pins : List (Addr × Obj)} {q : Addr × Obj} {σ : St} {H : Hp} {s : Shared} (I : Inv X (q :: pins) σ H s) : s.heap.get? q.1 = some q.2 := by
  obtain ⟨a1, a2, a3, a4, a5, a6, a7, a8, a9, a10, a11⟩ := I
  exact (a9 _ (List.mem_append_right _ List.mem_cons_self)).1
/-- what the written part says of the class at C, its __init__ at f, the cell of its own name at cc -/
structure SupC (K : PySem.W.Frag) (C cc : Addr) : Prop where
  T : OexC K C
  cell : ∃ cl cld csl, K.lookup cc = some ⟨cl, cld, .cell (some (.ref C)), csl⟩
  cd : ∃ cd, PySem.W.clsIn K C = some cd ∧ PySem.W.alongIn K "__init__" ((cd.mro.dropWhile (· != .ref C)).drop 1) = some (some (.builtin "ValueError.__init__"))
  self : PySem.W.mroIn K C (.ref C) = some true
  val : PySem.W.subIn K (.ref C) (.type "ValueError") = some true
  thr : PySem.W.nsIn K PySem.cStatics "thirdparty.any" = some none
section
variable {CX : CXT} {P : Program} {w : World} {K : PySem.W.Frag} {mg : Str → Option Value} {base : Heap} {F : NF} {f cc C : Addr} {A : Around} {outer : List Env} {s0 : Shared} {H0 : Hp} {E0 : XK} {N : List Str}
theorem sup_eval {p0 p1 p2 p3 : Pos} {e : Expr} {env : Env} (hp : (p2.endLine == p3.line) = true) (hst : starEach [e] env = [(false, eval e env)]) :
    eval (.Call (.Attribute (.Call (.Name "super" p0) [] [] p1) "__init__" p2) [e] [] p3) env = (do
      let ov ← attributeBase (.Call (.Name "super" p0) [] [] p1) "__init__" env (eval (.Call (.Name "super" p0) [] [] p1) env)
      standAt p2.atName
      let (f, first) ← holding [ov] (getMethod ov "__init__" (do return (← importBound (.Call (.Name "super" p0) [] [] p1) env).getD true))
      callWith p3 f first (backTo p3 (starEach [e] env)) []) := by
  have q : methodCallPos true (.Call (.Name "super" p0) [] [] p1) env p2 p3 = pure p3 := by
    unfold methodCallPos
    rw [hp]
    rfl
  show (do
    let ov ← attributeBase (.Call (.Name "super" p0) [] [] p1) "__init__" env (eval (.Call (.Name "super" p0) [] [] p1) env)
    standAt p2.atName
    methodCall (.Call (.Name "super" p0) [] [] p1) "__init__" p2 p3 env ov 1 (backTo p3 (starEach [e] env)) []) = _
  unfold methodCall calleeOf
  rw [show methodCallForm 1 (backTo p3 (starEach [e] env)) [] = true by rw [hst]; rfl, q]
  rfl
/-- super().__init__("..") in the body's context -/
theorem super_init {body : List Stmt} {p0 p1 p2 p3 pe : Pos} {te : TE} {pins : List (Addr × Obj)} {σ : St} {H : Hp} {s : Shared} {a : Addr} {Q : Flow → Shared → Prop} {e : Expr}
    (hpos : (p2.endLine == p3.line) = true) (S : SupC K C cc) (hF : F.cl = [(("__class__" : Str), cc)]) (hks : F.scope.names.lookup ("super" : Str) = some .globalImplicit) (hkc : F.scope.names.lookup ("__class__" : Str) = some .free) (hka : F.scope.names.lookup ("self" : Str) = some .local) (hk : F.scope.kind = .function)
    (hN : N[0]? = some ("self" : Str)) (hms : mg "super" = none)
    (hpar : (F.params.posonlyargs ++ F.params.args).head?.map (·.arg) = some ("self" : Str))
    (hcode : ∃ ccl cdd vs ccs file tf, K.lookup F.c = some ⟨ccl, cdd, .fields vs, ccs⟩ ∧ vs[2]? = some (.str file tf) ∧ ((P.main.file : Str) == file) = true) (htop : (P.main.scope.names.lookup ("super" : Str)).isSome = false)
    (hfo : ∃ oc od osl doc pm ctv, K.lookup f = some ⟨oc, od, .func (F.fd doc pm ctv), osl⟩)
    (I : Inv (ncx CX P w K mg base N F f A outer s0 H0 E0) pins σ H s) (hσ : σ[0]? = some (some (.ref a))) (e0 : H a = some (exo a C none)) (he : PE (ncx CX P w K mg base N F f A outer s0 H0 E0) e te) (hte : ∀ R : VK, (∀ y, R y H) → te σ H R) (hst : ∀ env, starEach [e] env = [(false, eval e env)])
    (h : ∀ s', Inv (ncx CX P w K mg base N F f A outer s0 H0 E0) pins σ H s' → Q .next s') :
    _root_.PySem.wpAt (model P w) (A.deeper (envF F f s0.heap.objs.size)) (.func body (envF F f s0.heap.objs.size)) (exec (.Expr (.Call (.Attribute (.Call (.Name "super" p0) [] [] p1) "__init__" p2) [e] [] p3) pe) (envF F f s0.heap.objs.size)) Q (ncx CX P w K mg base N F f A outer s0 H0 E0).xe s := by
  refine PySem.ks_wpAt_Expr_any (PySem.ks_wpAt_MethodCall ?_ (sup_eval hpos (hst _))) (by show interactive (envF F f s0.heap.objs.size) = false; unfold interactive; simp [hk])
  obtain ⟨ccl, cdd, vs, ccs, file, tf, hc1, hc2, hc3⟩ := hcode
  obtain ⟨oc, od, osl, doc, pm, ctv, hf⟩ := hfo
  obtain ⟨cl, cld, csl, hcell⟩ := S.cell
  obtain ⟨cd, hcd, hal⟩ := S.cd
  cases hp : (F.params.posonlyargs ++ F.params.args).head? with
  | none => rw [hp] at hpar; cases hpar
  | some ar =>
    rw [hp] at hpar
    simp only [Option.map_some, Option.some.injEq] at hpar
    refine PySem.ks_wpAt_super_base (f := f) (fd := F.fd doc pm ctv) (cc := F.c) hks hkc rfl rfl (I.kIn _ _ hf) rfl hp rfl (I.kIn _ _ hc1) rfl hc2 hc3 htop ?_
    obtain ⟨mb, hb1, hb2⟩ := I.mod.blt
    refine PySem.W.ks_loadName_global hk hks (Calls.loadGlobal_builtin (show s.heap.Ns (envF F f s0.heap.objs.size).globals mg from I.ok.glob ▸ I.mod.glob.keeps I.bk) hms (show s.heap.Ns (envF F f s0.heap.objs.size).builtins mb from I.ok.blt ▸ hb1.keeps I.bk) ((hb2 "super" (by decide)).trans PyProof.Rows.Boot.«super») ⟨rfl, ?_⟩)
    refine wpAny_loadName_free hk hkc (c := cc) (by show F.cl.lookup _ = _; rw [hF]; rfl) ⟨_, I.kIn _ _ hcell, rfl⟩ ?_
    obtain ⟨m, hns, hl⟩ := I.loc
    obtain ⟨ua, rua, hlook⟩ := hl 0 "self" (.ref a) hN hσ (.inl hka)
    obtain rfl : ua = Value.ref a := rua
    have hma : m "self" = some (.ref a) := by
      rcases hlook with ⟨_, z⟩ | ⟨z, _⟩
      · exact z
      · have z' : F.scope.names.lookup ("self" : Str) = some .cell ∨ F.scope.names.lookup ("self" : Str) = some .free := z
        rw [hka] at z'
        rcases z' with z' | z' <;> cases z'
    rw [hpar]
    refine wpAny_loadName_local hk hka hns hma ?_
    obtain ⟨oD, hD1, hD2⟩ : ∃ oD, s.heap.get? C = some oD ∧ oD.data = .cls cd := by
      have q := hcd
      unfold PySem.W.clsIn at q
      split at q
      · rename_i z
        cases q
        exact ⟨_, I.kIn _ _ z, rfl⟩
      · cases q
    refine ks_wpAny_isType_cls hD1 hD2 ⟨rfl, ?_⟩
    obtain ⟨t1, ho⟩ := exo_at I.hok e0
    obtain ⟨hp0, g, d, t, os⟩ := s
    refine ks_wpAny_call_super hD1 hD2 ho rfl (fun c z => by cases z) (PySem.W.looks_mroIn (I.kIn) S.self) (fun h' hso kp => ?_)
    have J := I.kept (t' := t) kp
    have ho' := kp _ _ ho
    have hD1' := kp _ _ hD1
    have hne : a ≠ C := fun z => by
      rw [z, hD1'] at ho'
      cases ho'
      cases hD2
    refine PySem.W.kxs_getMethod PySem.W.kxs_ValueError hso (PySem.W.looks_opaque J.kIn S.thr) (l₀ := cd.mro) (fun A Q E s k q => wpAny_bind ((PySem.W.looks_clsIn J.kIn hcd) A _ E s k (wpAny_pure q))) rfl J.kIn hal
      (PySem.W.Looks.andThen (a := Value.ref C) ((PySem.W.Looks.ld ho').andThen .now) (PySem.W.looks_subIn J.kIn S.val)) hne rfl ?_
    have J2 := J.kept (t' := t + 1) (h' := h'.push (PySem.W.kxs_mw "ValueError.__init__" a)) fun b o e => Heap.get?_push_of_some _ e
    have hu : (h'.push (PySem.W.kxs_mw "ValueError.__init__" a)).get? h'.objs.size = some (PySem.W.kxs_mw "ValueError.__init__" a) := Heap.get?_push_at rfl rfl
    have nl : h'.objs.size ≠ (ncx CX P w K mg base N F f A outer s0 H0 E0).env.locals := Nat.ne_of_gt J.lt
    have J3 : Inv (ncx CX P w K mg base N F f A outer s0 H0 E0) ((h'.objs.size, PySem.W.kxs_mw "ValueError.__init__" a) :: pins) σ H ⟨h'.push (PySem.W.kxs_mw "ValueError.__init__" a), g, d, t + 1, os⟩ :=
      pin_add J2 hu (J.hok.fresh (Nat.le_refl _)) nl (J.nofs (Nat.le_refl _)) (fun v z => by cases z)
    have hA : PA (ncx CX P w K mg base N F f A outer s0 H0 E0) [e] (tCons te tNil) := pa_cons he pa_nil (hst _)
    have hr := hA.run p3 _ _ σ H (fun vs H1 => H1 = H ∧ vs.length ≤ 10) J3 (hte _ fun y => ⟨rfl, by simp⟩)
    rw [show starEach [e] (ncx CX P w K mg base N F f A outer s0 H0 E0).env = _ from hst _] at hr
    rw [hst]
    refine PySem.W.kxs_callWith (i := "ValueError.__init__") (x := a) rfl (Calls.evalArgs_plain (thn hr fun us s1 ⟨vs, H1, I1, r1, q1, q2⟩ => ?_))
    subst q1
    have hu1 := pin_at I1
    refine ⟨hu1, ?_⟩
    have I2 : Inv (ncx CX P w K mg base N F f A outer s0 H0 E0) pins σ H1 s1 := pin_del I1
    exact wrap_call S.T I2 e0 hu1 (by rw [sizeLine_eq]; have := r1.length; simp only [List.nil_append]; omega) h
end
theorem lk1 {x : Str} {c c' : Addr} {y : Str} (h : [(y, c)].lookup x = some c') : c' = c := by
  rw [List.lookup_cons] at h
  split at h
  · exact (Option.some.inj h).symm
  · cases h
theorem lk2 {x : Str} {c c' : Addr} {y : Str} (h : [(y, c)].lookup x = some c') : x = y := by
  rw [List.lookup_cons] at h
  split at h
  · rename_i z; exact beq_iff_eq.mp z
  · cases h
/-- what __init__ promises: the dict holds the field -/
def spInit (C : Addr) (fld : Str) : Sp := fun vs H Q _ => ∃ a y, vs = [.ref a, y] ∧ H a = some (exo a C none) ∧ ∀ dx, H dx = none → dx ≠ a → Q .non (upd (upd H dx (exd dx [(fld, y)])) a (exo a C (some dx)))
theorem fn_oexs {CX : CXT} {P : Program} {w : World} {K : PySem.W.Frag} {mg : Str → Option Value} {base : Heap} {k : Nat} {f cc C : Addr} {F : NF} {oc doc pm ctv : Value} {od : Option Addr} {osl : Array (Option Value)} {p fld : Str} {p0 p1 p2 p3 pe q0 q1 q2 q3 pc : Pos} {cj : Nat} {txt : Str}
    (lk : K.lookup f = some ⟨oc, od, .func (F.fd doc pm ctv), osl⟩) (hcd : PySem.W.codeIn K (.ref F.c) F.qual = true) (Sc : NScope ["self", p, "__class__"] ["self", p] ["__class__"] F.scope)
    (hbody : F.body = [.Expr (.Call (.Attribute (.Call (.Name "super" p0) [] [] p1) "__init__" p2) [.Constant (.str txt) cj pc] [] p3) pe, .Assign [.Attribute (.Name "self" q0) fld q1] (.Name p q2) q3])
    (hpos : (p2.endLine == p3.line) = true) (S : SupC K C cc) (hF : F.cl = [(("__class__" : Str), cc)]) (hks : F.scope.names.lookup ("super" : Str) = some .globalImplicit)
    (hms : mg "super" = none) (hpar : (F.params.posonlyargs ++ F.params.args).head?.map (·.arg) = some ("self" : Str))
    (hcode : ∃ ccl cdd vs ccs file tf, K.lookup F.c = some ⟨ccl, cdd, .fields vs, ccs⟩ ∧ vs[2]? = some (.str file tf) ∧ ((P.main.file : Str) == file) = true) (htop : (P.main.scope.names.lookup ("super" : Str)).isSome = false)
    (hno : PySem.W.findIn K (.ref C) fld = some none) (hp1 : (p == ("__debug__" : Str)) = false) (hp2 : (p == ("__classdict__" : Str)) = false) :
    FnOk P w K mg base CX (k + 1) f (F.fd doc pm ctv) ["self", p] (spInit C fld) := by
  refine ⟨fun vs H Q E ⟨a, y, e, _⟩ => by rw [e]; rfl, fun A outer s H args us vs Q E hr e0 hb r hsp => ?_⟩
  obtain ⟨a, y, rfl, ha, q⟩ := hsp
  have KX : K.In s.heap := e0.mod.kin.keeps fun b o e => (e0.bs b o e).1
  have lim : s.heap.NoLimit := e0.mod.nolimit.keeps fun b o e => (e0.bs b o e).1
  obtain ⟨cl, cld, csl, hcell⟩ := S.cell
  have hcb : base.get? cc = some ⟨cl, cld, .cell (some (.ref C)), csl⟩ := e0.mod.kin _ _ hcell
  have hCells : CellsAt F.cl ["__class__"] [none] s.heap H := by
    rw [hF]
    refine ⟨rfl, fun z c hz => ?_, fun x z c hx hz => ?_, fun i z hz => ?_⟩
    · rw [lk1 hz]
      exact ⟨(e0.bs _ _ hcb).2, _, _, KX _ _ hcell, rfl⟩
    · rw [lk2 hx, lk2 hz]
    · cases i with
      | zero =>
        have : z = "__class__" := (Option.some.inj hz).symm
        subst this
        exact ⟨cc, rfl, fun v hv => by cases hv⟩
      | succ i => cases hz
  have hl : ([V.ref a, y] : List V).length = ([("self" : Str), p]).length := rfl
  have hσ : (startF [("self" : Str), p, "__class__"] [V.ref a, y] [none])[0]? = some (some (V.ref a)) := rfl
  have hk := Sc.kind
  have hka : F.scope.names.lookup ("self" : Str) = some .local := Sc.par "self" (by simp)
  have hkp : F.scope.names.lookup p = some .local := Sc.par p (by simp)
  have hkc : F.scope.names.lookup ("__class__" : Str) = some .free := Sc.frk "__class__" (by simp)
  refine ks_codeAny_call_defAt hr.depth (KX _ _ lk) rfl lim (PySem.W.codeRec_of KX hcd) rfl hb Sc.nocell (fun ⟨n, _⟩ hy => Sc.par n (List.of_mem_zip hy).1) (fun h₁ hns kp => ?_) Sc.co Sc.gen Sc.kind
  have I := inv_startN (CX := CX) (f := f) (E := E) (tk := s.toks + ([("self" : Str), p].zip us).length) Sc hr.hd e0 hl r hCells hns kp
  show _root_.PySem.wpAt (model P w) (A.deeper (envF F f s.heap.objs.size)) (.func F.body (envF F f s.heap.objs.size)) (execs F.body (envF F f s.heap.objs.size)) _ _ _
  rw [hbody]
  refine ks_wpAt_execs_cons ?_
  refine super_init (te := tC (.str txt)) hpos S hF hks hkc hka hk rfl hms hpar hcode htop ⟨oc, od, osl, doc, pm, ctv, lk⟩ I hσ ha pe_str (fun R h => h _) (fun env => rfl) fun s' J => ?_
  refine wpAt_of_wpAny ?_
  have hp2' : PSs (ncx CX P w K mg base [("self" : Str), p, "__class__"] F f A outer s H E) [.Assign [.Attribute (.Name "self" q0) fld q1] (.Name p q2) q3] (tSeq (tOst K fld (tVar 0) (tVar 1)) tNext) :=
    pss_cons (ps_ost (pe_var (i := 0) rfl (.inl hka)) (pe_var (i := 1) rfl (.inl hkp) hp1 hp2)) pss_nil
  have fin : ∀ {σ' : L2.St} {H' : Hp} {v : V} {u : Value} {s2 : Shared}, Inv (ncx CX P w K mg base [("self" : Str), p, "__class__"] F f A outer s H E) [] σ' H' s2 → L2.RelV v u → Q v H' → CE outer P w H s Q u s2 :=
    fun {σ' H' v u s2} J rv q => ⟨v, H', J.os, J.bare, J.base, J.hok, rv, q⟩
  refine wpAny_mono (hp2'.run [] s' _ H { nx := fun _ H' => Q .non H', rt := Q } J ⟨y, rfl, .ref a, rfl, a, C, rfl, S.T, hno, .inl ⟨ha, fun dx hdx hne => q dx hdx hne⟩⟩) (fun fl s2 hs => ?_) fun e s2 hs => hs
  cases fl with
  | ret u =>
    obtain ⟨v, σ', H', J, rv, q⟩ := hs
    exact fin J rv q
  | next =>
    obtain ⟨σ', H', J, q⟩ := hs
    exact fin (v := V.non) (u := Value.none) J rfl q
  | brk =>
    obtain ⟨_, _, _, q⟩ := hs
    exact False.elim q
  | cont =>
    obtain ⟨_, _, _, q⟩ := hs
    exact False.elim q
end L2
end
section
set_option Elab.async false
set_option linter.all false
set_option maxRecDepth 100000
set_option maxHeartbeats 2000000
/-! NXf: what is known of an own exception class with one field -/
namespace L2
open PySem PySem.Spec PyProof.Rows NdefX
structure ExcF (P : Program) (w : World) (K : PySem.W.Frag) (mg : Str → Option Value) (base : Heap) (k : Nat) (x f : Str) (C : Addr) : Prop where
  made : ∃ (fI : Addr) (fd : FuncData) (p : Str), FnOk P w K mg base (L2.CX P w) k fI fd [("self" : Str), p] (spInit C f) ∧ PySem.W.findIn K (.ref C) "__init__" = some (some (.ref fI)) ∧ PySem.W.typeIn K (.ref fI) = some (.type "function") ∧ Binds K fd [("self" : Str), p] []
  T : OexC K C
  mgx : mg x = some (.ref C)
  db : (x == ("__debug__" : Str)) = false
  no : PySem.W.findIn K (.ref C) f = some none
  xf : XfC K C
  own : PySem.W.exmOne K (.ref C) (.ref C) = some true
theorem ExcF.mono {P : Program} {w : World} {K : PySem.W.Frag} {mg : Str → Option Value} {base : Heap} {j k : Nat} {x f : Str} {C : Addr} (E : ExcF P w K mg base j x f C) (h : j ≤ k) : ExcF P w K mg base k x f C := by
  obtain ⟨⟨fI, fd, p, h1, h2, h3, h4⟩, a, b, c, d, e, g⟩ := E
  exact ⟨⟨fI, fd, p, h1.mono h, h2, h3, h4⟩, a, b, c, d, e, g⟩
theorem mk_read {H1 : Hp} {C : Addr} {f : Str} {y : V} {Q : XK} (hQ : ∀ d, H1 d = none → Q (.ref C) (some d) (upd H1 d (.xd [(f, y)]))) :
    ([y] : List V).length ≤ 1000 ∧ ∀ a, H1 a = none → spInit C f (.ref a :: ([y] ++ [])) (upd H1 a (exo a C none)) (fun v H2 => v = .non ∧ ∃ (d : Addr) (fs : List (Str × V)), H2 a = some (exo a C (some d)) ∧ H2 d = some (exd d fs) ∧ H1 d = none ∧ Q (.ref C) (some d) (upd (del H2 a) d (.xd fs))) (fun _ _ _ => False) := by
  refine ⟨by simp, fun a ha => ⟨a, y, rfl, upd_same, fun dx hdx hne => ⟨rfl, dx, [(f, y)], upd_same, ?_, ?_, ?_⟩⟩⟩
  · rw [upd_ne hne, upd_same]
  · rw [upd_ne hne] at hdx; exact hdx
  · rw [upd_ne hne] at hdx
    have e : upd (del (upd (upd (upd H1 a (exo a C none)) dx (exd dx [(f, y)])) a (exo a C (some dx))) a) dx (.xd [(f, y)]) = upd H1 dx (.xd [(f, y)]) := by
      funext b
      by_cases h1 : b = dx
      · subst h1; rw [upd_same, upd_same]
      · rw [upd_ne h1, upd_ne h1]
        by_cases h2 : b = a
        · subst h2; rw [del_same, ha]
        · rw [del_ne h2, upd_ne h2, upd_ne h1, upd_ne h2]
    rw [e]
    exact hQ dx hdx
end L2
namespace L2
open PySem PySem.Spec PyProof.Rows NdefX
theorem along_VE (K : PySem.W.Frag) : PySem.W.alongIn K "__init__" [.type "ValueError", .type "Exception", .type "BaseException", .type "object"] = some (some (.builtin "ValueError.__init__")) := by kernel_rfl
theorem exm_own' {K : PySem.W.Frag} {S : Addr} (h1 : PySem.W.subIn K (.ref S) (.type "BaseException") = some true) (h2 : PySem.W.isClsIn K S = true) (h3 : PySem.W.typeIn K (.ref S) = some (.type "type")) (h4 : PySem.W.subIn K (.ref S) (.ref S) = some true) : PySem.W.exmOne K (.ref S) (.ref S) = some true := by
  have q1 : (PySem.W.subIn K (.ref S) (.type "BaseException") == some true) = true := by rw [h1]; rfl
  have q2 : ((PySem.W.clsIn K S).isSome && PySem.W.typeIn K (.ref S) == some (.type "type")) = true := by
    have h5 : (PySem.W.clsIn K S).isSome = true := h2
    rw [h5, h3]; rfl
  unfold PySem.W.exmOne
  first
    | (rw [if_pos q1, if_pos q2]; exact h4)
    | (show (if (PySem.W.subIn K (.ref S) (.type "BaseException") == some true) = true then _ else _) = _; rw [if_pos q1]; show (if ((PySem.W.clsIn K S).isSome && PySem.W.typeIn K (.ref S) == some (.type "type")) = true then _ else _) = _; rw [if_pos q2]; exact h4)
theorem excF_of {P : Program} {w : World} {K : PySem.W.Frag} {mg : Str → Option Value} {base : Heap} {k : Nat} {x fld p qual nm q file txt : Str} {C f1 cc cda N : Addr} {bs : List Value} {sn : List Str} {sub : List Value} {ab : Bool} {col : Option Bool} {dd : Option Addr} {m0 m1 m2 m3 m5 : Option Value} {params : Arguments} {body : List Stmt} {scope : Scope}
    {oc dc pm ct ccl cl : Value} {od cdd cld : Option Addr} {osl ccs csl : Array (Option Value)} {vs : Array Value} {tf : Tok} {p0 p1 p2 p3 pe q0 q1 q2 q3 pc : Pos} {cj : Nat}
    (gC : mg x = some (.ref C)) (hdb : (x == ("__debug__" : Str)) = false)
    (xL : K.lookup C = some (excClassObj nm q C N bs [.type "ValueError", .type "Exception", .type "BaseException", .type "object"] true sn sub ab col dd m0 m1 m2 m3 m5 "ValueError.__new__"))
    (sa : PySem.W.findIn K (.ref C) "__setattr__" = some (some (.builtin "object.__setattr__"))) (ga : PySem.W.findIn K (.ref C) "__getattribute__" = some (some (.builtin "BaseException.__getattribute__"))) (gg : PySem.W.findIn K (.ref C) "__getattr__" = some none) (no : PySem.W.findIn K (.ref C) fld = some none)
    (iC : PySem.W.findIn K (.ref C) "__init__" = some (some (.ref f1))) (tI : PySem.W.typeIn K (.ref f1) = some (.type "function"))
    (l1 : K.lookup f1 = some ⟨oc, od, .func (PySem.W.fnX "__init__" qual params body scope [(("__class__" : Str), cc)] .none .none dc pm none (.ref cda) ct), osl⟩) (c1 : PySem.W.codeIn K (.ref cda) qual = true)
    (lc : K.lookup cda = some ⟨ccl, cdd, .fields vs, ccs⟩) (cv : vs[2]? = some (.str file tf)) (pf : ((P.main.file : Str) == file) = true) (pt : (P.main.scope.names.lookup ("super" : Str)).isSome = false)
    (lcc : K.lookup cc = some ⟨cl, cld, .cell (some (.ref C)), csl⟩)
    (kC : PySem.W.keepIn K (.ref C) = true) (eC : PySem.W.subIn K (.ref C) (.type "BaseException") = some true) (tC : PySem.W.typeIn K (.ref C) = some (.type "type")) (hC : PySem.W.hasDictIn K C = true) (iS : PySem.W.isClsIn K C = true) (sC : PySem.W.subIn K (.ref C) (.ref C) = some true) (mC : PySem.W.mroIn K C (.ref C) = some true) (vC : PySem.W.subIn K (.ref C) (.type "ValueError") = some true)
    (th : PySem.W.nsIn K PySem.cStatics "thirdparty.any" = some none) (ms : mg "super" = none)
    (Sc : NScope [("self" : Str), p, "__class__"] [("self" : Str), p] ["__class__"] scope) (hks : scope.names.lookup ("super" : Str) = some .globalImplicit)
    (hbody : body = [.Expr (.Call (.Attribute (.Call (.Name "super" p0) [] [] p1) "__init__" p2) [.Constant (.str txt) cj pc] [] p3) pe, .Assign [.Attribute (.Name "self" q0) fld q1] (.Name p q2) q3])
    (hpos : (p2.endLine == p3.line) = true) (hpar : (params.posonlyargs ++ params.args).head?.map (·.arg) = some ("self" : Str))
    (hbind : ∀ us : List Value, us.length = 2 → bindArgs (PySem.W.fnX "__init__" qual params body scope [(("__class__" : Str), cc)] .none .none dc pm none (.ref cda) ct) ⟨us, []⟩ = pure ([("self" : Str), p].zip us))
    (hp1 : (p == ("__debug__" : Str)) = false) (hp2 : (p == ("__classdict__" : Str)) = false) : ExcF P w K mg base (k + 1) x fld C := by
  have T : OexC K C := ⟨⟨nm, q, N, bs, _, sn, sub, ab, col, dd, m0, m1, m2, m3, m5, xL, by decide +kernel⟩, sa, eC, tC, kC⟩
  have S : SupC K C cc := by
    refine ⟨T, ⟨cl, cld, csl, lcc⟩, ?_, mC, vC, th⟩
    refine ⟨_, by unfold PySem.W.clsIn; rw [xL], ?_⟩
    have e : ((Value.ref C :: [.type "ValueError", .type "Exception", .type "BaseException", .type "object"]).dropWhile (· != .ref C)).drop 1 = [.type "ValueError", .type "Exception", .type "BaseException", .type "object"] := by
      rw [List.dropWhile_cons]
      simp
    show PySem.W.alongIn K "__init__" (((Value.ref C :: [.type "ValueError", .type "Exception", .type "BaseException", .type "object"]).dropWhile (· != .ref C)).drop 1) = _
    rw [e]
    exact along_VE K
  refine ⟨⟨f1, _, p, fn_oexs (F := ⟨"__init__", qual, params, body, scope, [(("__class__" : Str), cc)], cda⟩) (k := k) l1 c1 Sc hbody hpos S rfl hks ms hpar ⟨ccl, cdd, vs, ccs, file, tf, lc, cv, pf⟩ pt no hp1 hp2, iC, tI, .all hbind⟩, T, gC, hdb, no, ⟨ga, gg, eC, hC⟩, exm_own' eC iS tC sC⟩
end L2
end
section
set_option Elab.async false
set_option linter.all false
set_option maxRecDepth 100000
set_option maxHeartbeats 2000000
/-! NXk: dicts whose keys are nested tuples of numbers -/
namespace L2
open PySem PySem.Spec PyProof.Rows
/-! ### keys without texts: their hash is the same in each world -/
mutual
def noText : NestedKey → Bool
  | .none => true
  | .num _ => true
  | .text _ => false
  | .tup ks => noTexts ks
def noTexts : List NestedKey → Bool
  | [] => true
  | k :: ks => noText k && noTexts ks
end
mutual
theorem hash_any (w w' : World) : ∀ k : NestedKey, noText k = true → k.hash w = k.hash w'
  | .none, _ => by simp only [NestedKey.hash]
  | .num i, _ => by simp only [NestedKey.hash]
  | .text x, h => by simp only [noText] at h; cases h
  | .tup ks, h => by
    simp only [noText] at h
    simp only [NestedKey.hash]
    rw [hashes_any w w' ks h]
theorem hashes_any (w w' : World) : ∀ ks : List NestedKey, noTexts ks = true → NestedKey.hashes w ks = NestedKey.hashes w' ks
  | [], _ => by simp only [NestedKey.hashes]
  | k :: ks, h => by
    simp only [noTexts, Bool.and_eq_true] at h
    simp only [NestedKey.hashes]
    rw [hash_any w w' k h.1, hashes_any w w' ks h.2]
end
noncomputable def hashN (k : NestedKey) : Int := by
  classical exact if h : Nonempty World then k.hash (Classical.choice h) else 0
theorem hashN_eq (w : World) {k : NestedKey} (h : noText k = true) : hashN k = k.hash w := by
  have hn : Nonempty World := ⟨w⟩
  unfold hashN
  rw [dif_pos hn]
  exact hash_any _ _ k h
abbrev KE := NestedKey × Addr × Value
noncomputable def entN (x : KE) : DictEntry := ⟨hashN x.1, .ref x.2.1, x.2.2⟩
def RawD (a : Addr) (xs : List KE) : Heap → Prop := fun h => (a == sysModules) = false ∧ xs.length ≤ sizeLine ∧ ∃ o es ep, h.get? a = some o ∧ o.ExactDict ∧ o.data = .dict es ep ∧ es.toList = xs.map entN
theorem RawD.obj {a : Addr} {xs : List KE} {h : Heap} {P : Program} {w : World} {H : Hp} (r : RawD a xs h) : ObjOk P w H h a (.ext (RawD a xs)) := by
  obtain ⟨h1, h2, o, es, ep, ho, hc, hd, he⟩ := id r
  refine ⟨r, ⟨o, ho⟩, fun g1 g2 q k => ?_⟩
  obtain ⟨h1, h2, o, es, ep, ho, hc, hd, he⟩ := q
  exact ⟨h1, h2, o, es, ep, k o ho, hc, hd, he⟩
theorem rawd_nil (h : Heap) (hb : sysModules < h.objs.size) : RawD h.objs.size [] (h.push { cls := .type "dict", data := .dict #[] }) :=
  ⟨beq_eq_false_iff_ne.mpr (Ne.symm (Nat.ne_of_lt hb)), Nat.zero_le _, _, #[], 0, Heap.get?_push_size _ rfl, ⟨rfl, rfl, rfl⟩, rfl, rfl⟩
/-! ### keys as data -/
mutual
def nkey : PyData → Option NestedKey
  | .none => some .none
  | .int i => some (.num i)
  | .tuple ds => (nkeys ds).map .tup
  | _ => none
def nkeys : List PyData → Option (List NestedKey)
  | [] => some []
  | d :: ds => match nkey d, nkeys ds with
    | some k, some ks => some (k :: ks)
    | _, _ => none
end
mutual
theorem nkey_noText : ∀ (d : PyData) (k : NestedKey), nkey d = some k → noText k = true
  | .none, k, h => by simp only [nkey] at h; cases h; simp only [noText]
  | .int i, k, h => by simp only [nkey] at h; cases h; simp only [noText]
  | .tuple ds, k, h => by
    simp only [nkey] at h
    cases hk : nkeys ds with
    | none => rw [hk] at h; cases h
    | some ks =>
      rw [hk] at h
      cases h
      simp only [noText]
      exact nkeys_noText ds ks hk
  | .bool _, k, h => by simp only [nkey] at h; cases h
  | .str _, k, h => by simp only [nkey] at h; cases h
  | .list _, k, h => by simp only [nkey] at h; cases h
  | .dict _, k, h => by simp only [nkey] at h; cases h
theorem nkeys_noText : ∀ (ds : List PyData) (ks : List NestedKey), nkeys ds = some ks → noTexts ks = true
  | [], ks, h => by simp only [nkeys] at h; cases h; simp only [noTexts]
  | d :: ds, ks, h => by
    simp only [nkeys] at h
    split at h
    · rename_i k ks' h1 h2
      cases h
      simp only [noTexts, Bool.and_eq_true]
      exact ⟨nkey_noText d k h1, nkeys_noText ds ks' h2⟩
    · cases h
end
section
variable {X : Cx} {pins : List (Addr × Obj)} {σ : St} {H : Hp} {s : Shared}
mutual
theorem nested_of (I : Inv X pins σ H s) : ∀ (d : PyData) (v : V) (u : Value) (k : NestedKey), Dp X.K H v d → nkey d = some k → RelV v u → NestedIs s.heap k u
  | .none, _, _, k, hd, h, r => by
    simp only [nkey] at h; cases h; cases hd
    obtain rfl : _ = Value.none := r
    exact .none
  | .int i, _, _, k, hd, h, r => by
    simp only [nkey] at h; cases h; cases hd
    obtain ⟨t, rfl⟩ := r
    exact .int i t
  | .tuple ds, _, _, k, hd, h, r => by
    simp only [nkey] at h
    cases hk : nkeys ds with
    | none => rw [hk] at h; cases h
    | some ks =>
      rw [hk] at h
      cases h
      cases hd with
      | tup hT hA =>
        obtain rfl : _ = Value.ref _ := r
        obtain ⟨its, rv, ⟨o, ho, hc, n, hdat⟩, hs⟩ := I.tuple hT
        exact .tup ho hc hdat (by simpa using nesteds_of I ds _ its ks hA hk rv)
  | .bool _, _, _, k, hd, h, r => by simp only [nkey] at h; cases h
  | .str _, _, _, k, hd, h, r => by simp only [nkey] at h; cases h
  | .list _, _, _, k, hd, h, r => by simp only [nkey] at h; cases h
  | .dict _, _, _, k, hd, h, r => by simp only [nkey] at h; cases h
theorem nesteds_of (I : Inv X pins σ H s) : ∀ (ds : List PyData) (vs : List V) (us : List Value) (ks : List NestedKey), DpAll X.K H vs ds → nkeys ds = some ks → Vals vs us → NestedAll s.heap ks us
  | [], _, _, ks, hd, h, r => by
    simp only [nkeys] at h; cases h; cases hd; cases r
    exact .nil
  | d :: ds, _, _, ks, hd, h, r => by
    simp only [nkeys] at h
    split at h
    · rename_i k ks' h1 h2
      cases h
      cases hd with
      | cons a b =>
        cases r with
        | cons ra rb => exact .cons (nested_of I d _ _ k a h1 ra) (nesteds_of I ds _ _ ks' b h2 rb)
    · cases h
end
/-- an address is a key -/
def KeyH (K : PySem.W.Frag) (H : Hp) (b : Addr) (k : NestedKey) : Prop := ∃ d, Dp K H (.ref b) d ∧ nkey d = some k ∧ k.depth ≤ 8
theorem KeyH.is (I : Inv X pins σ H s) {b : Addr} {k : NestedKey} (h : KeyH X.K H b k) : (nestedKind X.prog X.w).is s.heap k b := by
  obtain ⟨d, h1, h2, h3⟩ := h
  exact ⟨nested_of I d _ _ k h1 h2 rfl, h3⟩
theorem KeyH.noText {K : PySem.W.Frag} {b : Addr} {k : NestedKey} (h : KeyH K H b k) : noText k = true := by
  obtain ⟨d, h1, h2, h3⟩ := h
  exact nkey_noText d k h2
structure KdAt (K : PySem.W.Frag) (H : Hp) (a : Addr) (xs : List KE) : Prop where
  obj : H a = some (.ext (RawD a xs))
  keys : ∀ x ∈ xs, KeyH K H x.2.1 x.1
  nd : (xs.map (·.1)).Nodup
theorem KdAt.raw {K : PySem.W.Frag} {a : Addr} {xs : List KE} (h : KdAt K H a xs) (I : Inv X pins σ H s) : RawD a xs s.heap := (show ObjOk X.prog X.w H s.heap a (.ext (RawD a xs)) from I.hok a _ h.obj).1
theorem entry_eq {P : Program} {w : World} {xs : List KE} (h : ∀ x ∈ xs, noText x.1 = true) : xs.map entN = xs.map (entryOfKey (nestedKind P w)) := by
  refine List.map_congr_left fun x hx => ?_
  show (⟨hashN x.1, .ref x.2.1, x.2.2⟩ : DictEntry) = ⟨x.1.hash w, .ref x.2.1, x.2.2⟩
  rw [hashN_eq w (h x hx)]
theorem KdAt.dict {a : Addr} {xs : List KE} (h : KdAt X.K H a xs) (I : Inv X pins σ H s) : s.heap.DictOfH (nestedKind X.prog X.w) a xs := by
  obtain ⟨h1, h2, o, es, ep, ho, hc, hd, he⟩ := h.raw I
  exact ⟨o, es, ep, ho, hc, hd, he.trans (entry_eq fun x hx => (h.keys x hx).noText), fun x hx => (h.keys x hx).is I, h.nd⟩
theorem rawd_of {P : Program} {w : World} {h' : Heap} {a : Addr} {xs : List KE} (h1 : (a == sysModules) = false) (h2 : xs.length ≤ sizeLine) (hk : ∀ x ∈ xs, noText x.1 = true) (m : h'.DictOfH (nestedKind P w) a xs) : RawD a xs h' := by
  obtain ⟨o, es, ep, ho, hc, hd, he, _, _⟩ := m
  exact ⟨h1, h2, o, es, ep, ho, hc, hd, he.trans (entry_eq hk).symm⟩
theorem storedH_len (xs : List KE) (k : NestedKey) (b : Addr) (u : Value) : (storedH xs k b u).length ≤ xs.length + 1 := by
  unfold storedH
  split
  · rw [List.length_map]; omega
  · rw [List.length_append, List.length_singleton]; exact Nat.le_refl _
theorem storedH_mem {xs : List KE} {k : NestedKey} {b : Addr} {u : Value} {x : KE} (h : x ∈ storedH xs k b u) : (x.1 = k ∧ x.2.1 = b) ∨ ∃ y ∈ xs, x.1 = y.1 ∧ x.2.1 = y.2.1 := by
  unfold storedH at h
  split at h
  · obtain ⟨y, hy, rfl⟩ := List.mem_map.mp h
    refine .inr ⟨y, hy, ?_⟩
    unfold putAt
    split <;> exact ⟨rfl, rfl⟩
  · rcases List.mem_append.mp h with z | z
    · exact .inr ⟨x, z, rfl, rfl⟩
    · rw [List.mem_singleton] at z; subst z; exact .inl ⟨rfl, rfl⟩
/-- d[k] = v, the dict's object rewritten -/
theorem kd_store {a b : Addr} {xs : List KE} {k : NestedKey} {v : Value} {h' : Heap} {t' : Nat} (I : Inv X pins σ H s) (kd : KdAt X.K H a xs) (kb : KeyH X.K H b k) (hz : xs.length < sizeLine)
    (m : h'.DictOfH (nestedKind X.prog X.w) a (storedH xs k b v)) (hs : Heap.SameBut a s.heap h') : Inv X pins σ (upd H a (.ext (RawD a (storedH xs k b v)))) { s with heap := h', toks := t' } := by
  have he : ∃ q, h'.get? a = some q := let ⟨q, _, _, hq, _⟩ := m; ⟨q, hq⟩
  have hl : (storedH xs k b v).length ≤ sizeLine := by have := storedH_len xs k b v; omega
  refine d_write I (by rw [kd.obj]; exact True.intro) hs he (rawd_of (kd.raw I).1 hl (fun x hx => ?_) m).obj
  rcases storedH_mem hx with ⟨e1, _⟩ | ⟨y, hy, e1, _⟩
  · rw [e1]; exact kb.noText
  · rw [e1]; exact (kd.keys y hy).noText
theorem kd_dictSet {E : Value → Shared → Prop} {a b : Addr} {xs : List KE} {k : NestedKey} {v : Value} {Q : Unit → Shared → Prop} (hu : X.A.units + 64 < cLine) (I : Inv X pins σ H s) (kd : KdAt X.K H a xs) (kb : KeyH X.K H b k) (hz : xs.length < sizeLine)
    (h : ∀ s', Inv X pins σ (upd H a (.ext (RawD a (storedH xs k b v)))) s' → Q () s') : wpAny (model X.prog X.w) X.A (dictSet a (.ref b) v) Q E s :=
  wpAny_dictSet_heap (hsz := Nat.le_of_lt hz) (knd := nestedKind X.prog X.w) (by show X.A.units + 8 < cLine; omega) (kb.is I) (kd.dict I) fun h' m hs => h _ (kd_store I kd kb hz m hs)
end
section
variable {X : Cx}
/-- d[k] = v -/
def rKdSet (K : PySem.W.Frag) : TSet := fun o i v H Q => ∃ a b xs k, o = .ref a ∧ i = .ref b ∧ KdAt K H a xs ∧ KeyH K H b k ∧ xs.length < sizeLine ∧ ∀ u, RelV v u → Q (upd H a (.ext (RawD a (storedH xs k b u))))
theorem set_kd (hu : X.A.units + 64 < cLine) : PSet X (rKdSet X.K) := by
  intro pins s σ H o i v ov iv u Q I ro ri rv h
  obtain ⟨a, b, xs, k, rfl, rfl, kd, kb, hz, q⟩ := h
  obtain rfl : ov = Value.ref a := ro
  obtain rfl : iv = Value.ref b := ri
  exact wpAny_setItem_heap (hsz := Nat.le_of_lt hz) (knd := nestedKind X.prog X.w) (by show X.A.in1.units + 8 < cLine; simp; omega) (kb.is I) (kd.dict I) fun h' m hs => ⟨_, kd_store I kd kb hz m hs, q u rv⟩
/-- {} -/
def tKdNew : TE := fun _ H Q => ∀ p, H p = none → Q (.ref p) (upd H p (.ext (RawD p [])))
theorem pe_kdNew {pos : Pos} : PE X (.Dict [] [] pos) tKdNew := ⟨fun pins s σ H Q I h =>
  wpAny_Dict_empty ⟨.ref s.heap.objs.size, _, I.laid (a := s.heap.objs.size) (o := .ext (RawD s.heap.objs.size [])) (t' := s.toks) (fun _ _ q => Heap.get?_push_of_some _ q) (Nat.le_refl _) (rawd_nil s.heap I.big).obj, rfl, h _ (I.hok.fresh (Nat.le_refl _))⟩⟩
/-- len(d) -/
def rKdLen (K : PySem.W.Frag) : List V → Hp → VK → Prop := fun vs H Q => ∃ a xs, vs = [.ref a] ∧ KdAt K H a xs ∧ Q (.int ((xs.length : Nat) : Int)) H
theorem call_kdLen : CallR X (.builtin "len") (rKdLen X.K) := by
  intro pins s σ H vs us Q I r h
  obtain ⟨a, xs, rfl, kd, q⟩ := h
  obtain ⟨u, rfl, r1⟩ := vals1 r
  obtain rfl : u = Value.ref a := r1
  have hz := (kd.raw I).2.1
  exact call_len_dictH (knd := nestedKind X.prog X.w) (kd.raw I).1 (kd.dict I) (by rw [sizeLine_eq] at hz; omega) ⟨.int ((xs.length : Nat) : Int), H, I.tok _, ⟨_, rfl⟩, q⟩
end
end L2
end
section
set_option Elab.async false
set_option linter.all false
set_option maxRecDepth 100000
set_option maxHeartbeats 2000000
/-! NXd: dict comprehensions whose keys are nested tuples of numbers -/
namespace L2
open PySem PySem.Spec PyProof.Rows
section
variable {X : Cx}
/-- {k: v for target in iter if ..}: D the new dict -/
def tKc (K : PySem.W.Frag) (wi : TI) (g : TG) (tt : TT) (tk tv : TE) (vs : List Nat) : TE := fun σ H Q => wi σ H fun J H1 => ∀ D, H1 D = none → ∃ W : Nat → Nat → Hp → Prop, (∃ m, W 0 m (upd H1 D (.ext (RawD D [])))) ∧ ∀ i m H, W i m H →
  (J.stop i H ∧ Q (.ref D) H) ∨ (J.go i H ∧ ∃ Nx : Hp → Prop, (∀ H', Nx H' → ∃ m', m' < m ∧ W (i + 1) m' H') ∧ ∀ x H', J.yld i H x H' → g x (wipe σ vs) H' fun σ2 H2 => wipe σ2 vs = wipe σ vs ∧ tt σ2 H2 fun b H3 =>
    if b = true then tk σ2 H3 fun y H4 => tv σ2 H4 fun z H5 => ∃ bk xs k, y = .ref bk ∧ KdAt K H5 D xs ∧ KeyH K H5 bk k ∧ xs.length < sizeLine ∧ ∀ u, RelV z u → Nx (upd H5 D (.ext (RawD D (storedH xs k bk u)))) else Nx H3)
theorem kc_core {pins : List (Addr × Obj)} {s : Shared} {σ : St} {H : Hp} {Q : VK} {kx vx tg iter : Expr} {ifs : List Expr} {scope : Scope} {own : List (Str × Nat)} {pos pos' : Pos} {wi : TI} {g : TG} {tt : TT} {tk tv : TE} {use : Option (Value → Sem Unit)} {Qf : Value → Shared → Prop}
    (hu : X.A.units + 64 < cLine) (hc : X.calm = true) (hN : X.N.Nodup) (I : Inv X pins σ H s) (hi : PI X tg iter wi) (ok : BlkOk X.N X.env.scope scope own)
    (hg : ∀ (s : Shared) (H : Hp) (C : Addr) (cl : List (Str × Addr)) (fp : List Addr), PG (X.blk s H scope (compEnvC scope cl C X.env) fp) tg g) (ht : ∀ (s : Shared) (H : Hp) (C : Addr) (cl : List (Str × Addr)) (fp : List Addr), PTs (X.blk s H scope (compEnvC scope cl C X.env) fp) ifs tt)
    (hk : ∀ (s : Shared) (H : Hp) (C : Addr) (cl : List (Str × Addr)) (fp : List Addr), PE (X.blk s H scope (compEnvC scope cl C X.env) fp) kx tk)
    (he : ∀ (s : Shared) (H : Hp) (C : Addr) (cl : List (Str × Addr)) (fp : List Addr), PE (X.blk s H scope (compEnvC scope cl C X.env) fp) vx tv) (hs : ∀ x, foldedSetIterable iter X.env x = pure x)
    (h : tKc X.K wi g tt tk tv (own.map (·.2)) σ H Q)
    (hRR : ∀ D C s' m H', Inv X pins σ H' s' → Q (.ref D) H' → s'.heap.Ns C m → FpOk X pins H' C → compPost (model X.prog X.w) X.A X.xe use Qf (.ref D) C (.ok .next) s') :
    wpAny (model X.prog X.w) X.A (comprehension (.DictComp kx vx [⟨tg, iter, ifs, 0⟩] scope pos) scope X.env pos' newDict false (eval iter X.env) use) Qf X.xe s := by
  have cells : ∀ y ∈ scope.names, y.2 = .free → ∃ c, X.env.cells.lookup y.1 = some c := fun y hy e => by
    rcases ok.free y hy e with k | k
    · exact I.ok.has _ (.inl k)
    · exact I.ok.has _ (.inr k)
  refine wpAny_comprehension_free (use := use) rfl hs (closure_ok cells) ok.kind (fun y hy e => by rw [ok.uniq y hy, e]) (thn (hi.run pins s σ H _ I h) fun xv s1 hx => thn hx fun itv s2 h2 => ?_)
  obtain ⟨it, fp, tn, J, H2, e, I2, T, st2, f2, q⟩ := h2
  subst e
  refine wpAny_newObj_type (newEnv_comp ?_)
  generalize hD : s2.heap.objs.size = D
  obtain ⟨W, ⟨m0, w0⟩, turn⟩ := q D (I2.hok.fresh (Nat.le_of_eq hD))
  -- the dict is laid
  generalize hH3 : upd H2 D (.ext (RawD D [])) = H3 at w0
  generalize hs3 : ({ s2 with heap := s2.heap.push { cls := .type "dict", data := .dict #[] } } : Shared) = s3
  have h3 : s3.heap = s2.heap.push { cls := .type "dict", data := .dict #[] } := by rw [← hs3]
  have I3 : Inv X pins σ H3 s3 := by
    rw [← hs3, ← hH3]
    refine I2.laid (t' := s2.toks) (fun b o e => Heap.get?_push_of_some _ e) (Nat.le_of_eq hD) ?_
    have z := rawd_nil s2.heap I2.big
    rw [hD] at z
    exact z.obj
  have f3 : ∀ b ∈ fp, FpOk X pins H3 b ∧ b < s3.heap.objs.size := fun b hb => by
    obtain ⟨o, e, _⟩ := T.obj _ _ st2 b hb
    have hlt := Heap.lt_size e
    refine ⟨⟨?_, (f2 b hb).2⟩, by rw [h3, Heap.size_push]; exact Nat.lt_succ_of_lt hlt⟩
    rw [← hH3, upd_ne (by rw [← hD]; exact Nat.ne_of_lt hlt)]
    exact (f2 b hb).1
  have st3 : tn 0 s3.heap := T.keep _ _ _ st2 fun b _ o e => by rw [h3]; exact Heap.get?_push_of_some _ e
  -- the block begins
  have I4 := block_start I3 ok hN f3
  have pg := hg s3 H3 s3.heap.objs.size (cellsFrom (s3.heap.objs.size + 1) scope.names (cloFrom X.env.cells scope.names [])) fp
  have pt := ht s3 H3 s3.heap.objs.size (cellsFrom (s3.heap.objs.size + 1) scope.names (cloFrom X.env.cells scope.names [])) fp
  have pk := hk s3 H3 s3.heap.objs.size (cellsFrom (s3.heap.objs.size + 1) scope.names (cloFrom X.env.cells scope.names [])) fp
  have pv := he s3 H3 s3.heap.objs.size (cellsFrom (s3.heap.objs.size + 1) scope.names (cloFrom X.env.cells scope.names [])) fp
  show codeAny _ _ (.compStart (.DictComp kx vx [⟨tg, iter, ifs, 0⟩] scope pos) 0 (.ref it) (.ref D) (compEnvC scope (cellsFrom (s3.heap.objs.size + 1) scope.names (cloFrom X.env.cells scope.names [])) s3.heap.objs.size X.env)) (compPost (model X.prog X.w) X.A X.xe use Qf (.ref D) s3.heap.objs.size) { s3 with heap := pushCells (s3.heap.push { cls := .type "dict", data := .dict #[] }) scope.names }
  have nfp : ∀ b ∈ fp, H3 b = none := fun b hb => (f3 b hb).1.1
  generalize hce : compEnvC scope (cellsFrom (s3.heap.objs.size + 1) scope.names (cloFrom X.env.cells scope.names [])) s3.heap.objs.size X.env = ce at I4 pg pt pk pv ⊢
  have cL : ce.locals = s3.heap.objs.size := by subst hce; rfl
  generalize hs4 : ({ s3 with heap := pushCells (s3.heap.push { cls := .type "dict", data := .dict #[] }) scope.names } : Shared) = s4 at I4 ⊢
  have st4 : tn 0 s4.heap := T.keep _ _ _ st3 fun b _ o e => by rw [← hs4]; exact pushCells_keeps _ _ _ _ (Heap.get?_push_of_some _ e)
  have apart : ∀ {σ' : St} {H' : Hp} {s' : Shared}, Inv (X.blk s3 H3 scope ce fp) [] σ' H' s' → (∀ b ∈ fp, H' b = none) → ∀ b ∈ fp, FpOk (X.blk s3 H3 scope ce fp) [] H' b := fun {σ' H' s'} I' hn b hb =>
    ⟨hn b hb, (I'.ok.exf b hb).1, I'.ok.exfs b hb, .inl hb, fun x c e => (I'.ok.exf b hb).2 x c e, fun p hp => absurd (show p ∈ ([] : List (Addr × Obj)) ++ [] from hp) (by simp)⟩
  have loop : codeAny (model X.prog X.w) X.A (.compLoop (.DictComp kx vx [⟨tg, iter, ifs, 0⟩] scope pos) 0 (.ref it) (.ref D) ce) (compPost (model X.prog X.w) X.A X.xe use Qf (.ref D) s3.heap.objs.size) s4 := by
    refine compLoop_anyD (fun n s' => ∃ i H', Inv (X.blk s3 H3 scope ce fp) [] (wipe σ (own.map (·.2))) H' s' ∧ tn i s'.heap ∧ (∀ b ∈ fp, H' b = none) ∧ W i n H') ?_ m0 ⟨0, H3, I4, st4, nfp, w0⟩
    rintro n s5 ⟨i, H5, I5, st5, n5, w5⟩
    rcases turn i n H5 w5 with ⟨stop, qq⟩ | ⟨go, Nx, hNx, step⟩
    · refine thnF (T.done (X.blk s3 H3 scope ce fp) rfl rfl rfl hc i [] s5 _ H5 (fun _ _ => False) I5 (apart I5 n5) st5 stop) fun r s6 ⟨hr, I6⟩ => ?_
      subst hr
      have I7 : Inv X pins σ H5 s6 := I3.call' (ch := fp) I6.os I6.base I6.hok I6.bare fun b hb => ⟨(f3 b hb).1.2.2.2.1, (f3 b hb).1.2.1, (f3 b hb).1.2.2.2.2.1, (f3 b hb).1.2.2.2.2.2⟩
      have nC : H5 s3.heap.objs.size = none := by
        have z : H5 ce.locals = none := I6.free
        rw [cL] at z
        exact z
      obtain ⟨m, hn, _⟩ := I6.loc
      have hn : s6.heap.Ns ce.locals m := hn
      rw [cL] at hn
      exact hRR D s3.heap.objs.size s6 m H5 I7 qq hn (I3.fpOk (Nat.le_refl _) nC)
    · refine thnF (T.item (X.blk s3 H3 scope ce fp) rfl rfl rfl hc i [] s5 _ H5 (fun _ _ => False) I5 (apart I5 n5) st5 go) fun r s6 ⟨u, hr, h6⟩ => ?_
      subst hr
      refine thnF h6 fun _ s7 ⟨x, H7, I7, r7, y7, st7, n7⟩ => ?_
      have I7' := I7.pinned (apart I7 n7) (T.obj _ _ st7)
      refine thnF (pg.run _ s7 _ H7 x u _ I7' r7 (step x H7 y7)) fun _ s8 ⟨σ8, H8, I8, hw8, q8⟩ => ?_
      refine thnF (pt.run _ s8 σ8 H8 _ I8 q8) fun b s9 ⟨H9, I9, q9⟩ => ?_
      have fin : ∀ {s' : Shared} {H' : Hp}, Inv (X.blk s3 H3 scope ce fp) ([] ++ pinsAt fp s7.heap) σ8 H' s' → Nx H' → ∃ m, m < n ∧ ∃ i H', Inv (X.blk s3 H3 scope ce fp) [] (wipe σ (own.map (·.2))) H' s' ∧ tn i s'.heap ∧ (∀ b ∈ fp, H' b = none) ∧ W i m H' := fun {s' H'} I' nx => by
        obtain ⟨m', hm, w'⟩ := hNx H' nx
        have pin' : ∀ b ∈ fp, ∀ o, s7.heap.get? b = some o → s'.heap.get? b = some o ∧ H' b = none := fun b hb o e =>
          let z := I'.pin (b, o) (List.mem_append_right _ (List.mem_append_right _ (mem_pinsAt hb e)))
          ⟨z.1, z.2.1⟩
        have hl : (wipe σ (own.map (·.2))).length = σ8.length := by rw [← hw8, wipe_length]
        refine ⟨m', hm, i + 1, H', (I'.unpinned (pins := [])).weak hl (fun j v e => ?_), T.keep _ _ _ st7 fun b hb o e => (pin' b hb o e).1, fun b hb => ?_, w'⟩
        · rw [← hw8] at e
          exact (wipe_some e).1
        · obtain ⟨o, e, _⟩ := T.obj _ _ st7 b hb
          exact (pin' b hb o e).2
      cases b with
      | false =>
        simp only [Bool.false_eq_true, if_false] at q9 ⊢
        exact fin I9 q9
      | true =>
        simp only [if_true] at q9 ⊢
        refine thnF (pk.run _ s9 σ8 H9 _ I9 q9) fun z s10 ⟨yk, H10, I10, r10, q10⟩ => ?_
        refine thnF (pv.run _ s10 σ8 H10 _ I10 q10) fun z2 s11 ⟨yv, H11, I11, r11, bk, xs, k, ek, kd, kb, hz, nx⟩ => ?_
        subst ek
        obtain rfl : z = Value.ref bk := r10
        exact kd_dictSet (X := X.blk s3 H3 scope ce fp) hu I11 kd kb hz fun s12 I12 => fin I12 (nx z2 r11)
  exact codeAny_compStart_dict loop (T.self X.A 0 _ _ _ st4 loop)
/-- as a value -/
theorem pe_kc {kx vx tg iter : Expr} {ifs : List Expr} {scope : Scope} {own : List (Str × Nat)} {pos : Pos} {wi : TI} {g : TG} {tt : TT} {tk tv : TE} (hu : X.A.units + 64 < cLine) (hc : X.calm = true) (hN : X.N.Nodup) (hi : PI X tg iter wi) (ok : BlkOk X.N X.env.scope scope own)
    (hg : ∀ (s : Shared) (H : Hp) (C : Addr) (cl : List (Str × Addr)) (fp : List Addr), PG (X.blk s H scope (compEnvC scope cl C X.env) fp) tg g) (ht : ∀ (s : Shared) (H : Hp) (C : Addr) (cl : List (Str × Addr)) (fp : List Addr), PTs (X.blk s H scope (compEnvC scope cl C X.env) fp) ifs tt)
    (hk : ∀ (s : Shared) (H : Hp) (C : Addr) (cl : List (Str × Addr)) (fp : List Addr), PE (X.blk s H scope (compEnvC scope cl C X.env) fp) kx tk)
    (he : ∀ (s : Shared) (H : Hp) (C : Addr) (cl : List (Str × Addr)) (fp : List Addr), PE (X.blk s H scope (compEnvC scope cl C X.env) fp) vx tv) (hs : ∀ x, foldedSetIterable iter X.env x = pure x := by intro _; rfl) :
    PE X (.DictComp kx vx [⟨tg, iter, ifs, 0⟩] scope pos) (tKc X.K wi g tt tk tv (own.map (·.2))) := by
  refine ⟨fun pins s σ H Q I h => ?_⟩
  rw [arm_eval_DictComp]
  refine kc_core hu hc hN I hi ok hg ht hk he hs h fun D C s' m H' I' q hn f => ⟨m, hn, fun h'' sb => ?_⟩
  obtain ⟨f0, f1, f2, f3, f4, f5⟩ := f
  exact ⟨.ref D, H', I'.turned (t' := s'.toks) (fun b o hb e => (sb.2 b hb).trans e) f0 f1 f3 f4 f5, rfl, q⟩
end
end L2
end
section
set_option linter.all false
set_option maxRecDepth 100000
/-! NWa: a core language over data, and its plain evaluator -/
namespace NW
open PySem L2

abbrev D := PyData
abbrev lim : Nat := 16777216

/-- a field of an owned dict: frozen data, or a list that the dict alone holds -/
inductive Fld where
  | fz (d : D)
  | ls (ds : List D)
/-- what a name holds: frozen data, or a list, a dict that nobody else holds -/
inductive O where
  | fz (d : D)
  | lst (ds : List D)
  | dct (kvs : List (Key × Fld))
  /-- a dict whose keys are nested tuples of numbers -/
  | kd (kvs : List (D × D))
abbrev Env := List (Option O)
/-- a value at hand: an owned thing, the thing of a name, a list in a field of a name's dict -/
inductive P where
  | val (o : O)
  | plc (i : Nat)
  | plf (i : Nat) (k : Key)
structure Exn where
  cls : Str
  flds : List (Str × D)
inductive Out (α : Type) where
  | ok (a : α) (e : Env)
  | exc (x : Exn) (e : Env)

def bnd {α β : Type} : Option (Out α) → (α → Env → Option (Out β)) → Option (Out β)
  | some (.ok a e), f => f a e
  | some (.exc x e), _ => some (.exc x e)
  | none, _ => none
@[simp] theorem bnd_ok {α β : Type} (a : α) (e : Env) (f : α → Env → Option (Out β)) : bnd (some (.ok a e)) f = f a e := rfl
@[simp] theorem bnd_exc {α β : Type} (x : Exn) (e : Env) (f : α → Env → Option (Out β)) : bnd (some (.exc x e)) f = some (.exc x e) := rfl
@[simp] theorem bnd_none {α β : Type} (f : α → Env → Option (Out β)) : bnd none f = none := rfl

/-! ### owned things as data -/
def Fld.d : Fld → D
  | .fz d => d
  | .ls ds => .list ds
def keyD : Key → D
  | .inl i => .int i
  | .inr x => .str x
/-- the data of a thing whose items are frozen -/
def O.flat : O → Option D
  | .fz d => some d
  | .lst ds => some (.list ds)
  | .dct _ => none
  | .kd _ => none
def look (kvs : List (Key × Fld)) (k : Key) : Option Fld := (kvs.find? fun kv => decide (kv.1 = k)).map (·.2)
def putF (kvs : List (Key × Fld)) (k : Key) (v : Fld) : List (Key × Fld) :=
  if kvs.any (fun kv => decide (kv.1 = k)) then kvs.map (fun kv => if kv.1 = k then (kv.1, v) else kv) else kvs ++ [(k, v)]

def slot (env : Env) (i : Nat) : Option O := (env[i]?).join
/-! dicts with nested keys -/
def keyOkD (q : D) : Bool := match q with
  | .tuple ds => match nkey (.tuple ds) with
    | some k => decide (k.depth ≤ 8)
    | none => false
  | _ => false
def putKd (kvs : List (D × D)) (q d : D) : List (D × D) :=
  if kvs.any (fun p => decide (nkey p.1 = nkey q)) = true then kvs.map (fun p => if nkey p.1 = nkey q then (p.1, d) else p) else kvs ++ [(q, d)]
def kdP : P → Env → Option (List (D × D))
  | .val (.kd kvs), _ => some kvs
  | .plc i, env => match slot env i with
    | some (.kd kvs) => some kvs
    | _ => none
  | _, _ => none
/-- a value read -/
def flatP : P → Env → Option D
  | .val o, _ => o.flat
  | .plc i, env => (slot env i).bind O.flat
  | .plf i k, env => match slot env i with
    | some (.dct kvs) => match look kvs k with
      | some (.ls ds) => some (.list ds)
      | _ => none
    | _ => none
/-- a value kept: what a name held is frozen from then on -/
def share : P → Env → Option (Out O)
  | .val o, env => some (.ok o env)
  | .plc i, env => match slot env i with
    | some o => match o.flat with
      | some d => some (.ok (.fz d) (env.set i (some (.fz d))))
      | none => none
    | none => none
  | .plf _ _, _ => none
/-- a value handed over: a list or a dict leaves its name -/
def mv : P → Env → Option (Out O)
  | .val o, env => some (.ok o env)
  | .plc i, env => match slot env i with
    | some (.fz d) => some (.ok (.fz d) env)
    | some o => some (.ok o (env.set i none))
    | none => none
  | .plf _ _, _ => none
/-- a value kept as frozen data -/
def frz (p : P) (env : Env) : Option (Out D) := bnd (share p env) fun o env => match o.flat with
  | some d => some (.ok d env)
  | none => none

/-! ### operators -/
inductive BinK | add | sub | mul | fdiv | mod | pow
  deriving DecidableEq
inductive CmpK | eq | ne | lt | le | gt | ge | isin | notin | is | isnt
  deriving DecidableEq

/-! The bounds are closed to the kernel (it must never reckon them at a number with a variable): they are chosen, and told by a law. -/
theorem smallI_ex : ∃ f : Int → Bool, ∀ i, f i = (decide (-(2 ^ 64) < i) && decide (i < 2 ^ 64)) := ⟨_, fun _ => rfl⟩
noncomputable def smallI : Int → Bool := Classical.choose smallI_ex
theorem smallI_def (i : Int) : smallI i = (decide (-(2 ^ 64) < i) && decide (i < 2 ^ 64)) := Classical.choose_spec smallI_ex i
theorem divOk_ex : ∃ f : Int → Bool, ∀ i, f i = (decide (0 < i) && decide (i < 1073741824)) := ⟨_, fun _ => rfl⟩
noncomputable def divOk : Int → Bool := Classical.choose divOk_ex
theorem divOk_def (i : Int) : divOk i = (decide (0 < i) && decide (i < 1073741824)) := Classical.choose_spec divOk_ex i
theorem divOk_iff {i : Int} : divOk i = true ↔ 0 < i ∧ i < 1073741824 := by rw [divOk_def, Bool.and_eq_true, decide_eq_true_eq, decide_eq_true_eq]
theorem powOk_ex : ∃ f : Int → Int → Bool, ∀ a b, f a b = (decide (0 ≤ b) && decide (b ≤ 1000000) && decide (a.natAbs < 2 ^ 64)) := ⟨_, fun _ _ => rfl⟩
noncomputable def powOk : Int → Int → Bool := Classical.choose powOk_ex
theorem powOk_def (a b : Int) : powOk a b = (decide (0 ≤ b) && decide (b ≤ 1000000) && decide (a.natAbs < 2 ^ 64)) := Classical.choose_spec powOk_ex a b
theorem powOk_iff {a b : Int} : powOk a b = true ↔ 0 ≤ b ∧ b ≤ 1000000 ∧ a.natAbs < 2 ^ 64 := by rw [powOk_def, Bool.and_eq_true, Bool.and_eq_true, decide_eq_true_eq, decide_eq_true_eq, decide_eq_true_eq, and_assoc]
theorem rngOk_ex : ∃ f : Int → Bool, ∀ n, f n = (decide (-(2 ^ 62) ≤ n) && decide (n < 2 ^ 62)) := ⟨_, fun _ => rfl⟩
noncomputable def rngOk : Int → Bool := Classical.choose rngOk_ex
theorem rngOk_def (n : Int) : rngOk n = (decide (-(2 ^ 62) ≤ n) && decide (n < 2 ^ 62)) := Classical.choose_spec rngOk_ex n
theorem repOk_ex : ∃ f : Nat → Int → Bool, ∀ l n, f l n = (decide (1 ≤ l) && decide (l ≤ 1000) && decide (2 ≤ n) && decide (n ≤ 1000)) := ⟨_, fun _ _ => rfl⟩
noncomputable def repOk : Nat → Int → Bool := Classical.choose repOk_ex
theorem repOk_def (l : Nat) (n : Int) : repOk l n = (decide (1 ≤ l) && decide (l ≤ 1000) && decide (2 ≤ n) && decide (n ≤ 1000)) := Classical.choose_spec repOk_ex l n
theorem repOk_iff {l : Nat} {n : Int} : repOk l n = true ↔ 1 ≤ l ∧ l ≤ 1000 ∧ 2 ≤ n ∧ n ≤ 1000 := by rw [repOk_def, Bool.and_eq_true, Bool.and_eq_true, Bool.and_eq_true, decide_eq_true_eq, decide_eq_true_eq, decide_eq_true_eq, decide_eq_true_eq, and_assoc, and_assoc]
theorem replOk_ex : ∃ f : Nat → Int → Bool, ∀ l n, f l n = (decide (l ≤ 1000) && decide (0 ≤ n) && decide (n ≤ 1000)) := ⟨_, fun _ _ => rfl⟩
noncomputable def replOk : Nat → Int → Bool := Classical.choose replOk_ex
theorem replOk_def (l : Nat) (n : Int) : replOk l n = (decide (l ≤ 1000) && decide (0 ≤ n) && decide (n ≤ 1000)) := Classical.choose_spec replOk_ex l n
theorem replOk_iff {l : Nat} {n : Int} : replOk l n = true ↔ l ≤ 1000 ∧ 0 ≤ n ∧ n ≤ 1000 := by rw [replOk_def, Bool.and_eq_true, Bool.and_eq_true, decide_eq_true_eq, decide_eq_true_eq, decide_eq_true_eq, and_assoc]
theorem shown_ex : ∃ f : D → Str, ∀ d, f d = PyData.shown d := ⟨_, fun _ => rfl⟩
noncomputable def shownS : D → Str := Classical.choose shown_ex
theorem shownS_def (d : D) : shownS d = PyData.shown d := Classical.choose_spec shown_ex d
theorem reprOk_ex : ∃ f : D → Bool, ∀ d, f d = (PyData.showable d && !PyData.hasDict d && decide (PyData.depth d ≤ 64) && decide ((PyData.shown d).length ≤ lim)) := ⟨_, fun _ => rfl⟩
noncomputable def reprOk : D → Bool := Classical.choose reprOk_ex
theorem reprOk_def (d : D) : reprOk d = (PyData.showable d && !PyData.hasDict d && decide (PyData.depth d ≤ 64) && decide ((PyData.shown d).length ≤ lim)) := Classical.choose_spec reprOk_ex d
theorem reprOk_iff {d : D} : reprOk d = true ↔ PyData.showable d = true ∧ PyData.hasDict d = false ∧ PyData.depth d ≤ 64 ∧ (PyData.shown d).length ≤ lim := by
  rw [reprOk_def]; simp only [Bool.and_eq_true, Bool.not_eq_true', decide_eq_true_eq, and_assoc]
theorem sortOk_ex : ∃ f : List D → Bool, ∀ ds, f ds = true ↔ (PySem.W.AllAlike ds ∧ PySem.W.Sortable ds ∧ ∀ d ∈ ds, PyData.depth d ≤ 60) := by
  classical exact ⟨fun ds => decide (PySem.W.AllAlike ds ∧ PySem.W.Sortable ds ∧ ∀ d ∈ ds, PyData.depth d ≤ 60), fun ds => decide_eq_true_iff⟩
noncomputable def sortOk : List D → Bool := Classical.choose sortOk_ex
theorem sortOk_iff {ds : List D} : sortOk ds = true ↔ (PySem.W.AllAlike ds ∧ PySem.W.Sortable ds ∧ ∀ d ∈ ds, PyData.depth d ≤ 60) := Classical.choose_spec sortOk_ex ds
theorem sortD_ex : ∃ f : List D → List D, ∀ ds, f ds = ds.mergeSort (PySem.W.dataLe false id) := ⟨_, fun _ => rfl⟩
noncomputable def sortD : List D → List D := Classical.choose sortD_ex
theorem sortD_def (ds : List D) : sortD ds = ds.mergeSort (PySem.W.dataLe false id) := Classical.choose_spec sortD_ex ds
theorem ssetI_ex : ∃ f : List Int → List Int, ∀ ns, f ns = setI ns := ⟨_, fun _ => rfl⟩
noncomputable def ssetI : List Int → List Int := Classical.choose ssetI_ex
theorem ssetI_def (ns : List Int) : ssetI ns = setI ns := Classical.choose_spec ssetI_ex ns
theorem smallI_of {i : Int} (h1 : -(2 ^ 64) < i) (h2 : i < 2 ^ 64) : smallI i = true := by
  rw [smallI_def, decide_eq_true h1, decide_eq_true h2]; rfl
theorem smallI_nat {n : Nat} (h : n ≤ 1000000) : smallI (n : Int) = true := smallI_of (by omega) (by omega)
theorem divOk_of {i : Int} (h1 : 0 < i) (h2 : i < 1073741824) : divOk i = true := divOk_iff.mpr ⟨h1, h2⟩
theorem divOk_nat {n : Nat} (h1 : 0 < n) (h : n ≤ 1000000) : divOk (n : Int) = true := divOk_of (by omega) (by omega)
theorem rngOk_of {n : Int} (h1 : -(2 ^ 62) ≤ n) (h2 : n < 2 ^ 62) : rngOk n = true := by
  rw [rngOk_def, decide_eq_true h1, decide_eq_true h2]; rfl
theorem rngOk_nat {n : Nat} (h : n ≤ 1000000000) : rngOk (n : Int) = true := rngOk_of (by omega) (by omega)
@[simp] theorem smallI_lit {n : Nat} (h : n < 18446744073709551616) : smallI (no_index (OfNat.ofNat n)) = true := smallI_of (show -(2 ^ 64) < (n : Int) by omega) (show (n : Int) < 2 ^ 64 by omega)
@[simp] theorem smallI_0 : smallI 0 = true := smallI_of (by omega) (by omega)
@[simp] theorem smallI_1 : smallI 1 = true := smallI_of (by omega) (by omega)
@[simp] theorem divOk_lit {n : Nat} (h : 0 < n) (h2 : n < 1073741824) : divOk (no_index (OfNat.ofNat n)) = true := divOk_of (show 0 < (n : Int) by omega) (show (n : Int) < 1073741824 by omega)
@[simp] theorem divOk_1 : divOk 1 = true := divOk_of (by omega) (by omega)
@[simp] theorem rngOk_lit {n : Nat} (h : n < 4611686018427387904) : rngOk (no_index (OfNat.ofNat n)) = true := rngOk_of (show -(2 ^ 62) ≤ (n : Int) by omega) (show (n : Int) < 2 ^ 62 by omega)
@[simp] theorem rngOk_0 : rngOk 0 = true := rngOk_of (by omega) (by omega)
@[simp] theorem rngOk_1 : rngOk 1 = true := rngOk_of (by omega) (by omega)
theorem powOk_10 {b : Int} (h : 0 ≤ b) (h2 : b ≤ 1000000) : powOk 10 b = true := powOk_iff.mpr ⟨h, h2, by decide⟩
@[simp] theorem powOk_10_lit {n : Nat} (h : n < 1000000) : powOk 10 (no_index (OfNat.ofNat n)) = true := powOk_10 (show 0 ≤ (n : Int) by omega) (show (n : Int) ≤ 1000000 by omega)
@[simp] theorem powOk_2_lit {n : Nat} (h : n < 1000000) : powOk 2 (no_index (OfNat.ofNat n)) = true := powOk_iff.mpr ⟨show 0 ≤ (n : Int) by omega, show (n : Int) ≤ 1000000 by omega, by decide⟩
example : smallI 250 = true := by simp
example : powOk 10 30 = true := by simp
example : divOk 17 = true := by simp
def repD (ds : List D) (n : Nat) : List D := (List.replicate n ds).flatten
noncomputable def binO : BinK → D → D → Option O
  | .add, .int a, .int b => some (.fz (.int (a + b)))
  | .add, .str a, .str b => if a.length + b.length ≤ lim then some (.fz (.str (a ++ b))) else none
  | .add, .tuple a, .tuple b => if a.length + b.length ≤ lim then some (.fz (.tuple (a ++ b))) else none
  | .add, .list a, .list b => if a.length + b.length ≤ lim then some (.lst (a ++ b)) else none
  | .sub, .int a, .int b => some (.fz (.int (a - b)))
  | .mul, .int a, .int b => if smallI a || smallI b then some (.fz (.int (a * b))) else none
  | .mul, .tuple ds, .int n => if repOk ds.length n then some (.fz (.tuple (repD ds n.toNat))) else if n = 1 then some (.fz (.tuple ds)) else if n = 0 then some (.fz (.tuple [])) else none
  | .mul, .list ds, .int n => if replOk ds.length n then some (.lst (repD ds n.toNat)) else none
  | .fdiv, .int a, .int b => if divOk b then some (.fz (.int (a / b))) else none
  | .mod, .int a, .int b => if 0 < b then some (.fz (.int (a % b))) else none
  | .pow, .int a, .int b => if powOk a b then some (.fz (.int (a ^ b.toNat))) else none
  | _, _, _ => none

/-- a thing without objects within -/
def scalar : D → Bool
  | .none | .bool _ | .int _ | .str _ => true
  | _ => false
def shaped (d : D) : Bool := SeqAt.shaped d
def rowOf : D → Option (List D)
  | .tuple ds => some ds
  | .list ds => some ds
  | _ => none
def eqD (a b : D) : Option Bool := if shaped a && shaped b then some (PyData.eqv a b) else none
/-- an item of a row of flat or nested data: each is asked by == -/
def inD (x : D) : List D → Option Bool
  | [] => some false
  | y :: ys => match eqD x y with
    | some true => some true
    | some false => inD x ys
    | none => none
def ltStr (a b : Str) : Bool := decide (a.cps.toList < b.cps.toList)
/-- is a one of the things of the row b -/
def hasO (a b : D) : Option Bool := match rowOf b with
  | some ds => if shaped a && shaped b then some (ds.any fun z => PyData.eqv z a) else none
  | none => none
/-- the first place of an equal one -/
def idxD (ds : List D) (y : D) : Option Nat := if shaped (.list ds) && shaped y then ds.findIdx? fun z => PyData.eqv z y else none
def cmpO : CmpK → D → D → Option Bool
  | .eq, .str a, .str b => some (decide (a = b))
  | .ne, .str a, .str b => some (!decide (a = b))
  | .eq, a, b => eqD a b
  | .ne, a, b => (eqD a b).map (!·)
  | .lt, .int a, .int b => some (decide (a < b))
  | .le, .int a, .int b => some (decide (a ≤ b))
  | .gt, .int a, .int b => some (decide (b < a))
  | .ge, .int a, .int b => some (decide (b ≤ a))
  | .isin, a, b => hasO a b
  | .notin, a, b => (hasO a b).map (!·)
  | .is, .bool a, .bool b => some (decide (a = b))
  | .isnt, .bool a, .bool b => some (!decide (a = b))
  | _, _, _ => none

def isNone : D → Bool
  | .none => true
  | _ => false
def cutD (xs : List D) (lo hi : Option Int) : List D := (xs.drop (HT.sIx xs.length 0 lo)).take (HT.sIx xs.length xs.length hi - HT.sIx xs.length 0 lo)
def ixD : D → D → Option D
  | .tuple ds, .int i => atI ds i
  | .list ds, .int i => atI ds i
  | _, _ => none
def slO : D → Option Int → Option Int → Option O
  | .tuple ds, lo, hi => some (.fz (.tuple (cutD ds lo hi)))
  | .list ds, lo, hi => some (.lst (cutD ds lo hi))
  | _, _, _ => none
def truthD : D → Option Bool
  | .none => some false
  | .bool b => some b
  | .int i => some (i != 0)
  | .tuple ds => some (!ds.isEmpty)
  | .list ds => some (!ds.isEmpty)
  | _ => none

inductive BI | len | int | max | min | sum | all | any | tuple | list | divmod | repr | sorted
  deriving DecidableEq
def intsOf : List D → Option (List Int)
  | [] => some []
  | .int i :: r => (intsOf r).map (i :: ·)
  | _ :: _ => none
def boolsOf : List D → Option (List Bool)
  | [] => some []
  | .bool i :: r => (boolsOf r).map (i :: ·)
  | _ :: _ => none
def maxI : List Int → Int
  | [] => 0
  | [x] => x
  | x :: r => let m := maxI r; if m > x then m else x
def minI : List Int → Int
  | [] => 0
  | [x] => x
  | x :: r => let m := minI r; if m < x then m else x
noncomputable def biO : BI → List D → Option O
  | .len, [.tuple ds] => some (.fz (.int ds.length))
  | .len, [.list ds] => some (.fz (.int ds.length))
  | .int, [.int i] => some (.fz (.int i))
  | .int, [.bool b] => some (.fz (.int (if b then 1 else 0)))
  | .max, [.int i, .int j] => some (.fz (.int (if j > i then j else i)))
  | .min, [.int i, .int j] => some (.fz (.int (if j < i then j else i)))
  | .max, [.list ds] => match intsOf ds with
    | some ns => if 0 < ns.length then some (.fz (.int (maxI ns))) else none
    | none => none
  | .min, [.list ds] => match intsOf ds with
    | some ns => if 0 < ns.length then some (.fz (.int (minI ns))) else none
    | none => none
  | .max, [.tuple ds] => match intsOf ds with
    | some ns => if 0 < ns.length then some (.fz (.int (maxI ns))) else none
    | none => none
  | .min, [.tuple ds] => match intsOf ds with
    | some ns => if 0 < ns.length then some (.fz (.int (minI ns))) else none
    | none => none
  | .sum, [.list ds] => match intsOf ds with
    | some ns => some (.fz (.int ns.sum))
    | none => none
  | .sum, [.tuple ds] => match intsOf ds with
    | some ns => some (.fz (.int ns.sum))
    | none => none
  | .all, [.list ds] => match boolsOf ds with
    | some bs => some (.fz (.bool (bs.all id)))
    | none => none
  | .any, [.list ds] => match boolsOf ds with
    | some bs => some (.fz (.bool (bs.any id)))
    | none => none
  | .tuple, [.list ds] => some (.fz (.tuple ds))
  | .tuple, [.tuple ds] => some (.fz (.tuple ds))
  | .list, [.list ds] => some (.lst ds)
  | .list, [.tuple ds] => some (.lst ds)
  | .repr, [d] => if reprOk d then some (.fz (.str (shownS d))) else none
  | .divmod, [.int i, .int j] => if divOk j then some (.fz (.tuple [.int (i / j), .int (i % j)])) else none
  | .sorted, [.list ds] => if sortOk ds then some (.lst (sortD ds)) else none
  | _, _ => none

inductive TyK | int | bool | str | tuple | list | dict
  deriving DecidableEq
def isiD : TyK → D → Bool
  | .int, d => match d with | .int _ => true | .bool _ => true | _ => false
  | .bool, d => match d with | .bool _ => true | _ => false
  | .str, d => match d with | .str _ => true | _ => false
  | .tuple, d => match d with | .tuple _ => true | _ => false
  | .list, d => match d with | .list _ => true | _ => false
  | .dict, d => match d with | .dict _ => true | _ => false

/-- what a handler makes of an exception's field -/
inductive HV | fld | lstf | tupf (w : Str)
/-! ### the language -/
mutual
inductive CE where
  | lit (d : D)
  | var (i : Nat)
  | glob (x : Str)
  | tup (es : CEs)
  | lst (es : CEs)
  | dct (ks : List Str) (es : CEs)
  | bin (k : BinK) (a b : CE)
  | cmp (k : CmpK) (a b : CE)
  | chain (k l : CmpK) (a b c : CE)
  | isN (a : CE)
  | notN (a : CE)
  | and (a b : CE)
  | or (a b : CE)
  | not (a : CE)
  | neg (a : CE)
  | ite (t : CB) (a b : CE)
  | ix (a i : CE)
  | fld (i : Nat) (k : Str)
  | sl (a : CE) (lo hi : CEo)
  | bi (b : BI) (es : CEs)
  | isi (a : CE) (T : TyK)
  | idx (a e : CE)
  | call (f : Str) (es : CEs)
  | cio (f : Str) (i : Nat) (es : CEs)
  | comp (own : List Nat) (t : CT) (src : CI) (cond : CB) (elt : CE)
  | tups (a : CE) (es : CEs)
  | sset (a : CE)
  | comp2 (own : List Nat) (t : CT) (src : CI) (own1 : List Nat) (t1 : CT) (src1 : CI) (elt : CE)
  | kd0
  | lenk (a : CE)
  | kcomp (own : List Nat) (t : CT) (src : CI) (cond : CB) (key val : CE)
/-- tests -/
inductive CB where
  | yes
  | of (e : CE)
  | and (a b : CB)
  | or (a b : CB)
  | not (a : CB)
inductive CEs where
  | nil
  | cons (e : CE) (es : CEs)
inductive CEo where
  | none
  | some (e : CE)
/-- what is walked -/
inductive CI where
  | of (e : CE)
  | rng (e : CE)
  | rng2 (a b : CE)
  | enum (e : CE)
  | zip (a b : CE)
/-- a target of names -/
inductive CT where
  | name (i : Nat)
  | tup (l : List Nat)
end
mutual
inductive CS where
  | asg (t : CT) (e : CE)
  | par (l : List Nat) (es : CEs)
  | aug (i : Nat) (k : BinK) (e : CE)
  | put (i : Nat) (k : CE) (e : CE)          -- x[k] = e, x a list or a dict of its own
  | putf (i : Nat) (f : Str) (k : CE) (e : CE) -- x["f"][k] = e
  | append (i : Nat) (e : CE)
  | extend (i : Nat) (e : CE)
  | expr (e : CE)
  | ret (e : CE)
  | retN
  | ite (t : CB) (a b : CSs)
  | for_ (t : CT) (src : CI) (body : CSs)
  | while_ (t : CB) (body : CSs)
  | raise (x : Str) (e : CE)
  | tryx (body : CSs) (x : Str) (i : Nat) (f : Str) (hv : HV) (k : Option Nat)
  | never
  | pass
  | brk
  | cnt
inductive CSs where
  | nil
  | cons (s : CS) (r : CSs)
end

/-- what a def means -/
inductive Mean where
  /-- data in, data out; n parameters -/
  | pure (n : Nat) (m : List D → Option (Except Exn D))
  /-- its first parameter is changed; n others -/
  | io (n : Nat) (m : O → List D → Option (Except Exn D × O))
  /-- what it hands back is the caller's own -/
  | mk (n : Nat) (m : List D → Option O)
  /-- an exception class with one field -/
  | exn (fld : Str)
structure Gam where
  const : Str → Option D
  fn : Str → Option Mean
  fuel : Nat
  ex : Str → Option Str := fun _ => none

def setAll : Env → List Nat → List D → Option Env
  | env, [], [] => some env
  | env, i :: is, d :: ds => setAll (env.set i (some (.fz d))) is ds
  | _, _, _ => none
def setT : CT → D → Env → Option Env
  | .name i, d, env => some (env.set i (some (.fz d)))
  | .tup l, d, env => match d with
    | .tuple ds => setAll env l ds
    | _ => none
def tgIn (own : List Nat) : CT → Bool
  | .name i => own.contains i
  | .tup l => l.all fun i => own.contains i
def wipeE : Env → List Nat → Env
  | env, [] => env
  | env, i :: is => (wipeE env is).set i none
/-- the slots of a comprehension are as they were -/
def backE (env env2 : Env) : List Nat → Env
  | [] => env2
  | i :: is => (backE env env2 is).set i (slot env i)

def enumFrom (n : Nat) : List D → List D
  | [] => []
  | d :: ds => .tuple [.int n, d] :: enumFrom (n + 1) ds
def zipD : List D → List D → List D
  | a :: as, b :: bs => .tuple [a, b] :: zipD as bs
  | _, _ => []
def rangeD (lo : Int) : Nat → List D
  | 0 => []
  | n + 1 => .int lo :: rangeD (lo + 1) n

/-- a comprehension's turns -/
def compL (turn : D → Env → Option (Out (Option D))) : List D → Env → Option (Out (List D))
  | [], env => some (.ok [] env)
  | d :: ds, env => match turn d env with
    | some (.ok o env2) => match compL turn ds env2 with
      | some (.ok r env3) => match o with
        | some y => some (.ok (y :: r) env3)
        | none => some (.ok r env3)
      | _ => none
    | _ => none

/-- a slot without an owned thing -/
def frOk (env : Env) (i : Nat) : Bool := match slot env i with
  | none => true
  | some (.fz _) => true
  | _ => false
def wipeO (own : List Nat) (r : Option D) (e : Env) : Option (Out (Option D)) := if own.all (frOk e) then some (.ok r (wipeE e own)) else none
def compTurn (own : List Nat) (st : D → Env → Option Env) (t : Env → Option (Out Bool)) (el : Env → Option (Out P)) (d : D) (e : Env) : Option (Out (Option D)) := match st d e with
  | some e => bnd (t e) fun c e => if c then bnd (el e) fun p e => bnd (frz p e) fun y e => wipeO own (some y) e else wipeO own none e
  | none => none
/-- two clauses: what an outer turn adds -/
def compTurnK (own : List Nat) (st : D → Env → Option Env) (t : Env → Option (Out Bool)) (kx vx : Env → Option (Out P)) (d : D) (e : Env) : Option (Out (Option (D × D))) := match st d e with
  | some e => bnd (t e) fun c e => if c then bnd (kx e) fun p e => bnd (frz p e) fun y e => bnd (vx e) fun q e => bnd (frz q e) fun z e => if own.all (frOk e) then some (.ok (some (y, z)) (wipeE e own)) else none
    else if own.all (frOk e) then some (.ok none (wipeE e own)) else none
  | none => none
def compK (turn : D → Env → Option (Out (Option (D × D)))) : List D → Env → List (D × D) → Option (Out (List (D × D)))
  | [], env, acc => some (.ok acc env)
  | d :: ds, env, acc => match turn d env with
    | some (.ok (some p) env2) => if keyOkD p.1 then compK turn ds env2 (putKd acc p.1 p.2) else none
    | some (.ok none env2) => compK turn ds env2 acc
    | _ => none
def compTurn2 (own own1 : List Nat) (st : D → Env → Option Env) (src : Env → Option (Out (List D))) (turn : D → Env → Option (Out (Option D))) (d : D) (e : Env) : Option (Out (List D)) := match st d e with
  | some e => bnd (src e) fun items e => if own1.all (frOk e) then match compL turn items (wipeE e own1) with
    | some (.ok ys e) => if own.all (frOk e) then some (.ok ys (wipeE e own)) else none
    | _ => none
    else none
  | none => none
def compL2 (turn : D → Env → Option (Out (List D))) : List D → Env → Option (Out (List D))
  | [], env => some (.ok [] env)
  | d :: ds, env => match turn d env with
    | some (.ok ys env2) => match compL2 turn ds env2 with
      | some (.ok r env3) => some (.ok (ys ++ r) env3)
      | _ => none
    | _ => none
def flats : List P → Env → Option (List D)
  | [], _ => some []
  | p :: ps, env => match flatP p env, flats ps env with
    | some d, some ds => some (d :: ds)
    | _, _ => none
mutual
/-- nothing that a name holds is changed -/
def noeff : CE → Bool
  | .lit _ | .var _ | .glob _ | .fld _ _ => true
  | .tup es | .lst es | .dct _ es | .bi _ es | .call _ es => noeffs es
  | .bin _ a b | .cmp _ a b | .and a b | .or a b | .ix a b | .idx a b => noeff a && noeff b
  | .chain _ _ a b c => noeff a && noeff b && noeff c
  | .ite t b c => noeffb t && noeff b && noeff c
  | .isN a | .notN a | .not a | .neg a | .isi a _ | .sset a => noeff a
  | .sl a lo hi => noeff a && noeffo lo && noeffo hi
  | .cio _ _ _ => false
  | .comp2 _ _ _ _ _ _ _ => false
  | .kd0 => true
  | .lenk a => noeff a
  | .kcomp _ _ _ _ _ _ => false
  | .tups a es => noeff a && noeffs es
  | .comp _ _ src cond elt => noeffi src && noeffb cond && noeff elt
def noeffb : CB → Bool
  | .yes => true
  | .of e => noeff e
  | .and a b | .or a b => noeffb a && noeffb b
  | .not a => noeffb a
def noeffs : CEs → Bool
  | .nil => true
  | .cons e es => noeff e && noeffs es
def noeffo : CEo → Bool
  | .none => true
  | .some e => noeff e
def noeffi : CI → Bool
  | .of e | .rng e | .enum e => noeff e
  | .rng2 a b | .zip a b => noeff a && noeff b
end
/-- a field's list may be at hand only while nothing is changed -/
def P.still : P → Bool → Bool
  | .plf _ _, b => b
  | _, _ => true

/-- a call with its arguments -/
def callD : Mean → List D → Env → Option (Out P)
  | .pure n m, ds, env => if ds.length = n then match m ds with
    | some (.ok d) => some (.ok (.val (.fz d)) env)
    | some (.error x) => some (.exc x env)
    | none => none
    else none
  | .mk n m, ds, env => if ds.length = n then match m ds with
    | some o => some (.ok (.val o) env)
    | none => none
    else none
  | .io _ _, _, _ => none
  | .exn _, _, _ => none
/-- a call that changes the thing of a name -/
def callI : Mean → Nat → List D → Env → Option (Out P)
  | .io n m, i, ds, env => if ds.length = n then match slot env i with
    | some o => match m o ds with
      | some (.ok d, o') => some (.ok (.val (.fz d)) (env.set i (some o')))
      | some (.error x, o') => some (.exc x (env.set i (some o')))
      | none => none
    | none => none
    else none
  | _, _, _, _ => none
mutual
noncomputable def evalE (Γ : Gam) : CE → Env → Option (Out P)
  | .lit d, env => some (.ok (.val (.fz d)) env)
  | .var i, env => match slot env i with
    | some _ => some (.ok (.plc i) env)
    | none => none
  | .glob x, env => match Γ.const x with
    | some d => some (.ok (.val (.fz d)) env)
    | none => none
  | .tup es, env => bnd (evalDs Γ es env) fun ds env => if ds.length ≤ lim then some (.ok (.val (.fz (.tuple ds))) env) else none
  | .sset a, env => bnd (evalE Γ a env) fun p env => match (flatP p env).bind rowOf with
    | some ds => match intsOf ds with
      | some ns => if ns.length ≤ 60 then some (.ok (.val (.lst ((ssetI ns).map .int))) env) else none
      | none => none
    | none => none
  | .tups a es, env => bnd (evalE Γ a env) fun p env => bnd (frz p env) fun d env => match rowOf d with
    | some xs => bnd (evalDs Γ es env) fun ds env => if xs.length + ds.length ≤ lim then some (.ok (.val (.fz (.tuple (xs ++ ds)))) env) else none
    | none => none
  | .lst es, env => bnd (evalDs Γ es env) fun ds env => if ds.length ≤ lim then some (.ok (.val (.lst ds)) env) else none
  | .dct ks es, env => bnd (evalFs Γ es env) fun fs env => if ks.length = fs.length ∧ ks.length ≤ 15 ∧ ks ≠ [] ∧ ks.Nodup then some (.ok (.val (.dct ((ks.map Sum.inr).zip fs))) env) else none
  | .bin k a b, env => bnd (evalE Γ a env) fun p env => bnd (evalE Γ b env) fun q env => if p.still (noeff b) then match flatP p env, flatP q env with
    | some x, some y => (binO k x y).map fun o => .ok (.val o) env
    | _, _ => none
    else none
  | .cmp k a b, env => bnd (evalE Γ a env) fun p env => bnd (evalE Γ b env) fun q env => if p.still (noeff b) then match flatP p env, flatP q env with
    | some x, some y => (cmpO k x y).map fun c => .ok (.val (.fz (.bool c))) env
    | _, _ => none
    else none
  | .chain k l a b c, env => bnd (evalE Γ a env) fun p env => bnd (evalE Γ b env) fun q env => if p.still (noeff b) && q.still (noeff c) then match flatP p env, flatP q env with
    | some x, some y => match cmpO k x y with
      | some true => bnd (evalE Γ c env) fun r env => match flatP q env, flatP r env with
        | some y, some z => (cmpO l y z).map fun c => .ok (.val (.fz (.bool c))) env
        | _, _ => none
      | some false => some (.ok (.val (.fz (.bool false))) env)
      | none => none
    | _, _ => none
    else none
  | .isN a, env => bnd (evalE Γ a env) fun p env => match flatP p env with
    | some x => some (.ok (.val (.fz (.bool (isNone x)))) env)
    | none => none
  | .notN a, env => bnd (evalE Γ a env) fun p env => match flatP p env with
    | some x => some (.ok (.val (.fz (.bool (!isNone x)))) env)
    | none => none
  | .and a b, env => bnd (evalE Γ a env) fun p env => match flatP p env with
    | some (.bool true) => evalE Γ b env
    | some (.bool false) => some (.ok (.val (.fz (.bool false))) env)
    | _ => none
  | .or a b, env => bnd (evalE Γ a env) fun p env => match flatP p env with
    | some (.bool true) => some (.ok (.val (.fz (.bool true))) env)
    | some (.bool false) => evalE Γ b env
    | some (.list (_ :: _)) => some (.ok p env)
    | some (.list []) => evalE Γ b env
    | _ => none
  | .not a, env => bnd (evalE Γ a env) fun p env => match flatP p env with
    | some (.bool c) => some (.ok (.val (.fz (.bool (!c)))) env)
    | _ => none
  | .neg a, env => bnd (evalE Γ a env) fun p env => match flatP p env with
    | some (.int i) => some (.ok (.val (.fz (.int (-i)))) env)
    | _ => none
  | .ite t a b, env => bnd (evalT Γ t env) fun c env => if c then evalE Γ a env else evalE Γ b env
  | .ix a i, env => bnd (evalE Γ a env) fun p env => bnd (evalE Γ i env) fun q env => if p.still (noeff i) then match flatP p env, flatP q env with
    | some x, some y => (ixD x y).map fun d => .ok (.val (.fz d)) env
    | _, _ => none
    else none
  | .fld i k, env => match slot env i with
    | some (.dct kvs) => match look kvs (.inr k) with
      | some (.fz d) => some (.ok (.val (.fz d)) env)
      | some (.ls _) => some (.ok (.plf i (.inr k)) env)
      | none => none
    | _ => none
  | .sl a lo hi, env => bnd (evalE Γ a env) fun p env => bnd (evalO Γ lo env) fun l env => bnd (evalO Γ hi env) fun h env => if p.still (noeffo lo && noeffo hi) then match flatP p env with
    | some x => (slO x l h).map fun o => .ok (.val o) env
    | none => none
    else none
  | .bi b es, env => bnd (evalPs Γ es env) fun ps env => match flats ps env with
    | some ds => (biO b ds).map fun o => .ok (.val o) env
    | none => none
  | .isi a T, env => bnd (evalE Γ a env) fun p env => match flatP p env with
    | some d => some (.ok (.val (.fz (.bool (isiD T d)))) env)
    | none => none
  | .idx a e, env => bnd (evalE Γ a env) fun p env => match flatP p env with
    | some (.list _) => bnd (evalE Γ e env) fun q env => if p.still (noeff e) then match flatP p env, flatP q env with
      | some (.list ds), some y => (idxD ds y).map fun j => .ok (.val (.fz (.int (j : Nat)))) env
      | _, _ => none
      else none
    | _ => none
  | .call f es, env => match Γ.fn f with
    | some m => bnd (evalDs Γ es env) fun ds env => callD m ds env
    | none => none
  | .cio f i es, env => match Γ.fn f with
    | some m => if (slot env i).isSome then bnd (evalDs Γ es env) fun ds env => callI m i ds env else none
    | none => none
  | .comp own t src cond elt, env => bnd (evalI Γ src env) fun items env =>
      if tgIn own t && own.all (frOk env) && decide (items.length ≤ lim) then match compL (compTurn own (setT t) (evalT Γ cond) (evalE Γ elt)) items (wipeE env own) with
      | some (.ok ds env2) => some (.ok (.val (.lst ds)) (backE env env2 own))
      | _ => none
      else none
  | .comp2 own t src own1 t1 src1 elt, env => bnd (evalI Γ src env) fun items env =>
      if tgIn own t && tgIn own1 t1 && own1.all (fun i => own.contains i) && own.all (frOk env) then match compL2 (compTurn2 own own1 (setT t) (evalI Γ src1) (compTurn own1 (setT t1) (fun e => some (.ok true e)) (evalE Γ elt))) items (wipeE env own) with
      | some (.ok ds env2) => if ds.length ≤ lim then some (.ok (.val (.lst ds)) (backE env env2 own)) else none
      | _ => none
      else none
  | .kd0, env => some (.ok (.val (.kd [])) env)
  | .lenk a, env => bnd (evalE Γ a env) fun p env => match kdP p env with
    | some kvs => some (.ok (.val (.fz (.int kvs.length))) env)
    | none => none
  | .kcomp own t src cond key val, env => bnd (evalI Γ src env) fun items env =>
      if tgIn own t && own.all (frOk env) && decide (items.length ≤ lim) then match compK (compTurnK own (setT t) (evalT Γ cond) (evalE Γ key) (evalE Γ val)) items (wipeE env own) [] with
      | some (.ok kvs env2) => some (.ok (.val (.kd kvs)) (backE env env2 own))
      | _ => none
      else none
noncomputable def evalDs (Γ : Gam) : CEs → Env → Option (Out (List D))
  | .nil, env => some (.ok [] env)
  | .cons e es, env => bnd (evalE Γ e env) fun p env => bnd (frz p env) fun d env => bnd (evalDs Γ es env) fun ds env => some (.ok (d :: ds) env)
noncomputable def evalPs (Γ : Gam) : CEs → Env → Option (Out (List P))
  | .nil, env => some (.ok [] env)
  | .cons e es, env => bnd (evalE Γ e env) fun p env => bnd (evalPs Γ es env) fun ps env => if p.still (noeffs es) then some (.ok (p :: ps) env) else none
noncomputable def evalFs (Γ : Gam) : CEs → Env → Option (Out (List Fld))
  | .nil, env => some (.ok [] env)
  | .cons e es, env => bnd (evalE Γ e env) fun p env => bnd (share p env) fun o env => match o with
    | .fz d => bnd (evalFs Γ es env) fun fs env => some (.ok (.fz d :: fs) env)
    | .lst ds => bnd (evalFs Γ es env) fun fs env => some (.ok (.ls ds :: fs) env)
    | _ => none
noncomputable def evalO (Γ : Gam) : CEo → Env → Option (Out (Option Int))
  | .none, env => some (.ok none env)
  | .some e, env => bnd (evalE Γ e env) fun p env => match flatP p env with
    | some (.int i) => some (.ok (some i) env)
    | _ => none
noncomputable def evalT (Γ : Gam) : CB → Env → Option (Out Bool)
  | .yes, env => some (.ok true env)
  | .and a b, env => bnd (evalT Γ a env) fun c env => if c then evalT Γ b env else some (.ok false env)
  | .or a b, env => bnd (evalT Γ a env) fun c env => if c then some (.ok true env) else evalT Γ b env
  | .not a, env => bnd (evalT Γ a env) fun c env => some (.ok (!c) env)
  | .of e, env => bnd (evalE Γ e env) fun p env => match flatP p env with
    | some d => (truthD d).map fun c => .ok c env
    | none => none
noncomputable def evalI (Γ : Gam) : CI → Env → Option (Out (List D))
  | .of e, env => bnd (evalE Γ e env) fun p env => bnd (frz p env) fun d env => (rowOf d).map fun ds => .ok ds env
  | .rng e, env => bnd (evalE Γ e env) fun p env => match flatP p env with
    | some (.int n) => if rngOk n then some (.ok (rangeD 0 n.toNat) env) else none
    | _ => none
  | .rng2 a b, env => bnd (evalE Γ a env) fun p env => bnd (evalE Γ b env) fun q env => match flatP p env, flatP q env with
    | some (.int m), some (.int n) => if rngOk m && rngOk n then some (.ok (rangeD m (n - m).toNat) env) else none
    | _, _ => none
  | .enum e, env => bnd (evalE Γ e env) fun p env => bnd (frz p env) fun d env => match d with
    | .list ds => some (.ok (enumFrom 0 ds) env)
    | .tuple ds => some (.ok (enumFrom 0 ds) env)
    | _ => none
  | .zip a b, env => bnd (evalE Γ a env) fun p env => bnd (frz p env) fun d env => bnd (evalE Γ b env) fun q env => bnd (frz q env) fun d2 env =>
    match d, d2 with
    | .list as, .list bs => some (.ok (zipD as bs) env)
    | .tuple as, .tuple bs => some (.ok (zipD as bs) env)
    | _, _ => none
end
end NW

/-! ### statements -/
namespace NW
open PySem L2
inductive SO where
  | nx (e : Env)
  | ret (o : O) (e : Env)
  | brk (e : Env)
  | cnt (e : Env)
  | exc (x : Exn) (e : Env)
def sbnd {α : Type} : Option (Out α) → (α → Env → Option SO) → Option SO
  | some (.ok a e), f => f a e
  | some (.exc x e), _ => some (.exc x e)
  | none, _ => none
@[simp] theorem sbnd_ok {α : Type} (a : α) (e : Env) (f : α → Env → Option SO) : sbnd (some (.ok a e)) f = f a e := rfl
@[simp] theorem sbnd_exc {α : Type} (x : Exn) (e : Env) (f : α → Env → Option SO) : sbnd (some (.exc x e)) f = some (.exc x e) := rfl
@[simp] theorem sbnd_none {α : Type} (f : α → Env → Option SO) : sbnd none f = none := rfl
def setOs : Env → List Nat → List O → Option Env
  | env, [], [] => some env
  | env, i :: is, o :: os => setOs (env.set i (some o)) is os
  | _, _, _ => none
def forL (body : D → Env → Option SO) : List D → Env → Option SO
  | [], env => some (.nx env)
  | d :: ds, env => match body d env with
    | some (.nx env2) => forL body ds env2
    | some (.cnt env2) => forL body ds env2
    | some (.brk env2) => some (.nx env2)
    | r => r
def bodyF (st : D → Env → Option Env) (run : Env → Option SO) (d : D) (env : Env) : Option SO := match st d env with
  | some env => run env
  | none => none
def whileL (test : Env → Option (Out Bool)) (body : Env → Option SO) : Nat → Env → Option SO
  | 0, _ => none
  | n + 1, env => sbnd (test env) fun c env => if c then match body env with
      | some (.nx env2) => whileL test body n env2
      | some (.cnt env2) => whileL test body n env2
      | some (.brk env2) => some (.nx env2)
      | r => r
    else some (.nx env)
/-- a list changed at a place -/
def setAtI (ds : List D) (i : Int) (d : D) : Option (List D) := (ixN ds.length i).map fun j => ds.set j d
def targets (pn : Nat) : CT → Bool
  | .name i => decide (pn ≤ i)
  | .tup l => l.all fun i => decide (pn ≤ i)
noncomputable def evalOs (Γ : Gam) : CEs → Env → Option (Out (List O))
  | .nil, env => some (.ok [] env)
  | .cons e es, env => bnd (evalE Γ e env) fun p env => bnd (share p env) fun o env => bnd (evalOs Γ es env) fun os env => some (.ok (o :: os) env)
def augO : BinK → D → D → Option D
  | .add, .int a, .int b => some (.int (a + b))
  | .sub, .int a, .int b => some (.int (a - b))
  | _, _, _ => none
def keyOf : D → Option Key
  | .int i => some (.inl i)
  | .str x => some (.inr x)
  | _ => none
def keysOk (kvs : List (Key × Fld)) : Bool := decide ((kvs.map (·.1)).Nodup)
/-- x[q] = o -/
def putO (q : D) (x o : O) : Option O := match x with
  | .lst ds => match q, o with
    | .int j, .fz d => (setAtI ds j d).map .lst
    | _, _ => none
  | .dct kvs => match keyOf q with
    | some k => if kvs.length < lim && keysOk kvs then match o with
      | .fz d => some (.dct (putF kvs k (.fz d)))
      | .lst ds => some (.dct (putF kvs k (.ls ds)))
      | _ => none
      else none
    | none => none
  | .kd kvs => if keyOkD q && decide (kvs.length < lim) then match o with
    | .fz d => some (.kd (putKd kvs q d))
    | _ => none
    else none
  | .fz _ => none
/-- x[f][q] = d -/
def putfO (q : D) (x : O) (f : Key) (d : D) : Option O := match x with
  | .dct kvs => match look kvs f, q with
    | some (.ls ds), .int j => if keysOk kvs then (setAtI ds j d).map fun ds' => .dct (putF kvs f (.ls ds')) else none
    | _, _ => none
  | _ => none
def appO (x : O) (d : D) : Option O := match x with
  | .lst ds => if ds.length < lim then some (.lst (ds ++ [d])) else none
  | _ => none
def isLst : Option O → Bool
  | some (.lst _) => true
  | _ => false
def isPlf : P → Bool
  | .plf _ _ => true
  | _ => false
def hvO : HV → D → O
  | .fld, d => .fz d
  | .lstf, d => .lst [d]
  | .tupf w, d => .fz (.tuple [.str w, d])
def handO (hv : HV) (d : D) (k : Option Nat) (pn i : Nat) (env : Env) : Option SO := match k with
  | none => some (.ret (hvO hv d) env)
  | some j => if pn ≤ j ∧ j ≠ i then some (.nx (env.set j (some (hvO hv d)))) else none
def tryO (x : Str) (i : Nat) (f : Str) (hv : HV) (k : Option Nat) (pn : Nat) : Option SO → Option SO
  | some (.exc y env) => if y.cls = x ∧ frOk env i = true ∧ i < env.length then match y.flds with
    | [(g, d)] => if g = f then handO hv d k pn i (wipeE env [i]) else none
    | _ => none
    else none
  | r => r
mutual
noncomputable def evalS (Γ : Gam) (pn : Nat) : CS → Env → Option SO
  | .asg (.name i) e, env => if pn ≤ i then sbnd (evalE Γ e env) fun p env => sbnd (share p env) fun o env => some (.nx (env.set i (some o))) else none
  | .asg (.tup l) e, env => if l.all (fun i => decide (pn ≤ i)) then sbnd (evalE Γ e env) fun p env => sbnd (frz p env) fun d env => match setT (.tup l) d env with
    | some env => some (.nx env)
    | none => none
    else none
  | .par l es, env => if l.all (fun i => decide (pn ≤ i)) && decide l.Nodup then sbnd (evalOs Γ es env) fun os env => match setOs env l os with
    | some env => some (.nx env)
    | none => none
    else none
  | .aug i k e, env => if pn ≤ i then match slot env i with
    | some (.fz x) => sbnd (evalE Γ e env) fun p env => match (flatP p env).bind (augO k x) with
      | some d => some (.nx (env.set i (some (.fz d))))
      | none => none
    | _ => none
    else none
  | .put i k e, env => sbnd (evalE Γ e env) fun p env => sbnd (share p env) fun o env => if (slot env i).isSome then sbnd (evalE Γ k env) fun q env => match flatP q env, slot env i with
    | some y, some x => match putO y x o with
      | some x' => some (.nx (env.set i (some x')))
      | none => none
    | _, _ => none
    else none
  | .putf i f k e, env => sbnd (evalE Γ e env) fun p env => sbnd (frz p env) fun d env => sbnd (evalE Γ (.fld i f) env) fun r env => sbnd (evalE Γ k env) fun q env =>
    if isPlf r && r.still (noeff k) then match flatP q env, slot env i with
    | some y, some x => match putfO y x (.inr f) d with
      | some x' => some (.nx (env.set i (some x')))
      | none => none
    | _, _ => none
    else none
  | .append i e, env => if isLst (slot env i) then sbnd (evalE Γ e env) fun p env => sbnd (frz p env) fun d env => match slot env i with
    | some x => match appO x d with
      | some x' => some (.nx (env.set i (some x')))
      | none => none
    | none => none
    else none
  | .extend i e, env => if isLst (slot env i) then sbnd (evalE Γ e env) fun p env => match p, slot env i with
    | .val (.lst xs), some (.lst ds) => if ds.length + xs.length ≤ lim then some (.nx (env.set i (some (.lst (ds ++ xs))))) else none
    | _, _ => none
    else none
  | .expr e, env => sbnd (evalE Γ e env) fun _ env => some (.nx env)
  | .ret e, env => sbnd (evalE Γ e env) fun p env => sbnd (mv p env) fun o env => some (.ret o env)
  | .retN, env => some (.ret (.fz .none) env)
  | .ite t a b, env => sbnd (evalT Γ t env) fun c env => if c then evalSs Γ pn a env else evalSs Γ pn b env
  | .for_ t src body, env => if targets pn t then sbnd (evalI Γ src env) fun items env => forL (bodyF (setT t) (evalSs Γ pn body)) items env
    else none
  | .while_ t body, env => whileL (evalT Γ t) (evalSs Γ pn body) Γ.fuel env
  | .raise x e, env => match Γ.ex x with
    | some f => sbnd (evalE Γ e env) fun p env => sbnd (frz p env) fun d env => if scalar d then some (.exc ⟨x, [(f, d)]⟩ env) else none
    | none => none
  | .tryx body x i f hv k, env => if pn ≤ i ∧ Γ.ex x = some f then tryO x i f hv k pn (evalSs Γ pn body env) else none
  | .never, _ => none
  | .pass, env => some (.nx env)
  | .brk, env => some (.brk env)
  | .cnt, env => some (.cnt env)
noncomputable def evalSs (Γ : Gam) (pn : Nat) : CSs → Env → Option SO
  | .nil, env => some (.nx env)
  | .cons s r, env => match evalS Γ pn s env with
    | some (.nx env) => evalSs Γ pn r env
    | r => r
end
/-- a def's body at its arguments: n names in all -/
def startE (n : Nat) (os : List O) : Env := os.map some ++ List.replicate (n - os.length) none
def endO : Option SO → Option (Except Exn O × Env)
  | some (.nx e) => some (.ok (.fz .none), e)
  | some (.ret o e) => some (.ok o, e)
  | some (.exc x e) => some (.error x, e)
  | _ => none
noncomputable def runPure (Γ : Gam) (n : Nat) (body : CSs) (ds : List D) : Option (Except Exn D) :=
  match endO (evalSs Γ 0 body (startE n (ds.map .fz))) with
  | some (.ok o, _) => match o.flat with
    | some d => some (.ok d)
    | none => none
  | some (.error x, _) => some (.error x)
  | none => none
noncomputable def runMk (Γ : Gam) (n : Nat) (body : CSs) (ds : List D) : Option O :=
  match endO (evalSs Γ 0 body (startE n (ds.map .fz))) with
  | some (.ok o, _) => some o
  | _ => none
noncomputable def runIo (Γ : Gam) (n : Nat) (body : CSs) (o : O) (ds : List D) : Option (Except Exn D × O) :=
  match endO (evalSs Γ 1 body (startE n (o :: ds.map .fz))) with
  | some (.ok r, e) => match r.flat, slot e 0 with
    | some d, some o' => some (.ok d, o')
    | _, _ => none
  | some (.error x, e) => match slot e 0 with
    | some o' => some (.error x, o')
    | none => none
  | none => none
end NW
namespace NW
example (Γ : Gam) : evalE Γ (.bin .add (.lit (.int 1)) (.lit (.int 2))) [] = some (.ok (.val (.fz (.int 3))) []) := rfl
example (Γ : Gam) (d : D) (n : Int) : evalSs Γ 0 (.cons (.asg (.name 0) (.bin .add (.var 0) (.lit (.int 2)))) .nil) [some (.fz (.int n))] = some (.nx [some (.fz (.int (n + 2)))]) := rfl
end NW
/-! the equations -/
namespace NW
open PySem L2
@[simp] theorem noeff_lit  {u0} : noeff  (.lit u0) = (true) := (rfl)
@[simp] theorem noeff_var  {u0} : noeff  (.var u0) = (true) := (rfl)
@[simp] theorem noeff_glob  {u0} : noeff  (.glob u0) = (true) := (rfl)
@[simp] theorem noeff_fld  {u0} {u1} : noeff  (.fld u0 u1) = (true) := (rfl)
@[simp] theorem noeff_tup  {es} : noeff  (.tup es) = (noeffs es) := (rfl)
@[simp] theorem noeff_lst  {es} : noeff  (.lst es) = (noeffs es) := (rfl)
@[simp] theorem noeff_dct  {u0} {es} : noeff  (.dct u0 es) = (noeffs es) := (rfl)
@[simp] theorem noeff_bi  {u0} {es} : noeff  (.bi u0 es) = (noeffs es) := (rfl)
@[simp] theorem noeff_call  {u0} {es} : noeff  (.call u0 es) = (noeffs es) := (rfl)
@[simp] theorem noeff_bin  {u0} {a} {b} : noeff  (.bin u0 a b) = (noeff a && noeff b) := (rfl)
@[simp] theorem noeff_cmp  {u0} {a} {b} : noeff  (.cmp u0 a b) = (noeff a && noeff b) := (rfl)
@[simp] theorem noeff_and  {a} {b} : noeff  (.and a b) = (noeff a && noeff b) := (rfl)
@[simp] theorem noeff_or  {a} {b} : noeff  (.or a b) = (noeff a && noeff b) := (rfl)
@[simp] theorem noeff_ix  {a} {b} : noeff  (.ix a b) = (noeff a && noeff b) := (rfl)
@[simp] theorem noeff_idx  {a} {b} : noeff  (.idx a b) = (noeff a && noeff b) := (rfl)
@[simp] theorem noeff_chain  {u0} {u1} {a} {b} {c} : noeff  (.chain u0 u1 a b c) = (noeff a && noeff b && noeff c) := (rfl)
@[simp] theorem noeff_ite  {t} {b} {c} : noeff  (.ite t b c) = (noeffb t && noeff b && noeff c) := (rfl)
@[simp] theorem noeff_isN  {a} : noeff  (.isN a) = (noeff a) := (rfl)
@[simp] theorem noeff_notN  {a} : noeff  (.notN a) = (noeff a) := (rfl)
@[simp] theorem noeff_not  {a} : noeff  (.not a) = (noeff a) := (rfl)
@[simp] theorem noeff_neg  {a} : noeff  (.neg a) = (noeff a) := (rfl)
@[simp] theorem noeff_isi  {a} {u0} : noeff  (.isi a u0) = (noeff a) := (rfl)
@[simp] theorem noeff_sset  {a} : noeff  (.sset a) = (noeff a) := (rfl)
@[simp] theorem noeff_sl  {a} {lo} {hi} : noeff  (.sl a lo hi) = (noeff a && noeffo lo && noeffo hi) := (rfl)
@[simp] theorem noeff_cio  {u0} {u1} {u2} : noeff  (.cio u0 u1 u2) = (false) := (rfl)
@[simp] theorem noeff_comp2  {u0} {u1} {u2} {u3} {u4} {u5} {u6} : noeff  (.comp2 u0 u1 u2 u3 u4 u5 u6) = (false) := (rfl)
@[simp] theorem noeff_kd0   : noeff  (.kd0) = (true) := (rfl)
@[simp] theorem noeff_lenk  {a} : noeff  (.lenk a) = (noeff a) := (rfl)
@[simp] theorem noeff_kcomp  {u0} {u1} {u2} {u3} {u4} {u5} : noeff  (.kcomp u0 u1 u2 u3 u4 u5) = (false) := (rfl)
@[simp] theorem noeff_tups  {a} {es} : noeff  (.tups a es) = (noeff a && noeffs es) := (rfl)
@[simp] theorem noeff_comp  {u0} {u1} {src} {cond} {elt} : noeff  (.comp u0 u1 src cond elt) = (noeffi src && noeffb cond && noeff elt) := (rfl)
@[simp] theorem noeffb_yes   : noeffb  (.yes) = (true) := (rfl)
@[simp] theorem noeffb_of  {e} : noeffb  (.of e) = (noeff e) := (rfl)
@[simp] theorem noeffb_and  {a} {b} : noeffb  (.and a b) = (noeffb a && noeffb b) := (rfl)
@[simp] theorem noeffb_or  {a} {b} : noeffb  (.or a b) = (noeffb a && noeffb b) := (rfl)
@[simp] theorem noeffb_not  {a} : noeffb  (.not a) = (noeffb a) := (rfl)
@[simp] theorem noeffs_nil   : noeffs  (.nil) = (true) := (rfl)
@[simp] theorem noeffs_cons  {e} {es} : noeffs  (.cons e es) = (noeff e && noeffs es) := (rfl)
@[simp] theorem noeffo_none   : noeffo  (.none) = (true) := (rfl)
@[simp] theorem noeffo_some  {e} : noeffo  (.some e) = (noeff e) := (rfl)
@[simp] theorem noeffi_of  {e} : noeffi  (.of e) = (noeff e) := (rfl)
@[simp] theorem noeffi_rng  {e} : noeffi  (.rng e) = (noeff e) := (rfl)
@[simp] theorem noeffi_enum  {e} : noeffi  (.enum e) = (noeff e) := (rfl)
@[simp] theorem noeffi_rng2  {a} {b} : noeffi  (.rng2 a b) = (noeff a && noeff b) := (rfl)
@[simp] theorem noeffi_zip  {a} {b} : noeffi  (.zip a b) = (noeff a && noeff b) := (rfl)
@[simp] theorem evalE_lit (Γ : Gam) {d} {env} : evalE Γ (.lit d) env = (some (.ok (.val (.fz d)) env)) := (rfl)
@[simp] theorem evalE_var (Γ : Gam) {i} {env} : evalE Γ (.var i) env = (match slot env i with
    | some _ => some (.ok (.plc i) env)
    | none => none) := (rfl)
@[simp] theorem evalE_glob (Γ : Gam) {x} {env} : evalE Γ (.glob x) env = (match Γ.const x with
    | some d => some (.ok (.val (.fz d)) env)
    | none => none) := (rfl)
@[simp] theorem evalE_tup (Γ : Gam) {es} {env} : evalE Γ (.tup es) env = (bnd (evalDs Γ es env) fun ds env => if ds.length ≤ lim then some (.ok (.val (.fz (.tuple ds))) env) else none) := (rfl)
@[simp] theorem evalE_sset (Γ : Gam) {a} {env} : evalE Γ (.sset a) env = (bnd (evalE Γ a env) fun p env => match (flatP p env).bind rowOf with
    | some ds => match intsOf ds with
      | some ns => if ns.length ≤ 60 then some (.ok (.val (.lst ((ssetI ns).map .int))) env) else none
      | none => none
    | none => none) := (rfl)
@[simp] theorem evalE_tups (Γ : Gam) {a} {es} {env} : evalE Γ (.tups a es) env = (bnd (evalE Γ a env) fun p env => bnd (frz p env) fun d env => match rowOf d with
    | some xs => bnd (evalDs Γ es env) fun ds env => if xs.length + ds.length ≤ lim then some (.ok (.val (.fz (.tuple (xs ++ ds)))) env) else none
    | none => none) := (rfl)
@[simp] theorem evalE_lst (Γ : Gam) {es} {env} : evalE Γ (.lst es) env = (bnd (evalDs Γ es env) fun ds env => if ds.length ≤ lim then some (.ok (.val (.lst ds)) env) else none) := (rfl)
@[simp] theorem evalE_dct (Γ : Gam) {ks} {es} {env} : evalE Γ (.dct ks es) env = (bnd (evalFs Γ es env) fun fs env => if ks.length = fs.length ∧ ks.length ≤ 15 ∧ ks ≠ [] ∧ ks.Nodup then some (.ok (.val (.dct ((ks.map Sum.inr).zip fs))) env) else none) := (rfl)
@[simp] theorem evalE_bin (Γ : Gam) {k} {a} {b} {env} : evalE Γ (.bin k a b) env = (bnd (evalE Γ a env) fun p env => bnd (evalE Γ b env) fun q env => if p.still (noeff b) then match flatP p env, flatP q env with
    | some x, some y => (binO k x y).map fun o => .ok (.val o) env
    | _, _ => none
    else none) := (rfl)
@[simp] theorem evalE_cmp (Γ : Gam) {k} {a} {b} {env} : evalE Γ (.cmp k a b) env = (bnd (evalE Γ a env) fun p env => bnd (evalE Γ b env) fun q env => if p.still (noeff b) then match flatP p env, flatP q env with
    | some x, some y => (cmpO k x y).map fun c => .ok (.val (.fz (.bool c))) env
    | _, _ => none
    else none) := (rfl)
@[simp] theorem evalE_chain (Γ : Gam) {k} {l} {a} {b} {c} {env} : evalE Γ (.chain k l a b c) env = (bnd (evalE Γ a env) fun p env => bnd (evalE Γ b env) fun q env => if p.still (noeff b) && q.still (noeff c) then match flatP p env, flatP q env with
    | some x, some y => match cmpO k x y with
      | some true => bnd (evalE Γ c env) fun r env => match flatP q env, flatP r env with
        | some y, some z => (cmpO l y z).map fun c => .ok (.val (.fz (.bool c))) env
        | _, _ => none
      | some false => some (.ok (.val (.fz (.bool false))) env)
      | none => none
    | _, _ => none
    else none) := (rfl)
@[simp] theorem evalE_isN (Γ : Gam) {a} {env} : evalE Γ (.isN a) env = (bnd (evalE Γ a env) fun p env => match flatP p env with
    | some x => some (.ok (.val (.fz (.bool (isNone x)))) env)
    | none => none) := (rfl)
@[simp] theorem evalE_notN (Γ : Gam) {a} {env} : evalE Γ (.notN a) env = (bnd (evalE Γ a env) fun p env => match flatP p env with
    | some x => some (.ok (.val (.fz (.bool (!isNone x)))) env)
    | none => none) := (rfl)
@[simp] theorem evalE_and (Γ : Gam) {a} {b} {env} : evalE Γ (.and a b) env = (bnd (evalE Γ a env) fun p env => match flatP p env with
    | some (.bool true) => evalE Γ b env
    | some (.bool false) => some (.ok (.val (.fz (.bool false))) env)
    | _ => none) := (rfl)
@[simp] theorem evalE_or (Γ : Gam) {a} {b} {env} : evalE Γ (.or a b) env = (bnd (evalE Γ a env) fun p env => match flatP p env with
    | some (.bool true) => some (.ok (.val (.fz (.bool true))) env)
    | some (.bool false) => evalE Γ b env
    | some (.list (_ :: _)) => some (.ok p env)
    | some (.list []) => evalE Γ b env
    | _ => none) := (rfl)
@[simp] theorem evalE_not (Γ : Gam) {a} {env} : evalE Γ (.not a) env = (bnd (evalE Γ a env) fun p env => match flatP p env with
    | some (.bool c) => some (.ok (.val (.fz (.bool (!c)))) env)
    | _ => none) := (rfl)
@[simp] theorem evalE_neg (Γ : Gam) {a} {env} : evalE Γ (.neg a) env = (bnd (evalE Γ a env) fun p env => match flatP p env with
    | some (.int i) => some (.ok (.val (.fz (.int (-i)))) env)
    | _ => none) := (rfl)
@[simp] theorem evalE_ite (Γ : Gam) {t} {a} {b} {env} : evalE Γ (.ite t a b) env = (bnd (evalT Γ t env) fun c env => if c then evalE Γ a env else evalE Γ b env) := (rfl)
@[simp] theorem evalE_ix (Γ : Gam) {a} {i} {env} : evalE Γ (.ix a i) env = (bnd (evalE Γ a env) fun p env => bnd (evalE Γ i env) fun q env => if p.still (noeff i) then match flatP p env, flatP q env with
    | some x, some y => (ixD x y).map fun d => .ok (.val (.fz d)) env
    | _, _ => none
    else none) := (rfl)
@[simp] theorem evalE_fld (Γ : Gam) {i} {k} {env} : evalE Γ (.fld i k) env = (match slot env i with
    | some (.dct kvs) => match look kvs (.inr k) with
      | some (.fz d) => some (.ok (.val (.fz d)) env)
      | some (.ls _) => some (.ok (.plf i (.inr k)) env)
      | none => none
    | _ => none) := (rfl)
@[simp] theorem evalE_sl (Γ : Gam) {a} {lo} {hi} {env} : evalE Γ (.sl a lo hi) env = (bnd (evalE Γ a env) fun p env => bnd (evalO Γ lo env) fun l env => bnd (evalO Γ hi env) fun h env => if p.still (noeffo lo && noeffo hi) then match flatP p env with
    | some x => (slO x l h).map fun o => .ok (.val o) env
    | none => none
    else none) := (rfl)
@[simp] theorem evalE_bi (Γ : Gam) {b} {es} {env} : evalE Γ (.bi b es) env = (bnd (evalPs Γ es env) fun ps env => match flats ps env with
    | some ds => (biO b ds).map fun o => .ok (.val o) env
    | none => none) := (rfl)
@[simp] theorem evalE_isi (Γ : Gam) {a} {env} : evalE Γ (.isi a T) env = (bnd (evalE Γ a env) fun p env => match flatP p env with
    | some d => some (.ok (.val (.fz (.bool (isiD T d)))) env)
    | none => none) := (rfl)
@[simp] theorem evalE_idx (Γ : Gam) {a} {e} {env} : evalE Γ (.idx a e) env = (bnd (evalE Γ a env) fun p env => match flatP p env with
    | some (.list _) => bnd (evalE Γ e env) fun q env => if p.still (noeff e) then match flatP p env, flatP q env with
      | some (.list ds), some y => (idxD ds y).map fun j => .ok (.val (.fz (.int (j : Nat)))) env
      | _, _ => none
      else none
    | _ => none) := (rfl)
@[simp] theorem evalE_call (Γ : Gam) {f} {es} {env} : evalE Γ (.call f es) env = (match Γ.fn f with
    | some m => bnd (evalDs Γ es env) fun ds env => callD m ds env
    | none => none) := (rfl)
@[simp] theorem evalE_cio (Γ : Gam) {f} {i} {es} {env} : evalE Γ (.cio f i es) env = (match Γ.fn f with
    | some m => if (slot env i).isSome then bnd (evalDs Γ es env) fun ds env => callI m i ds env else none
    | none => none) := (rfl)
@[simp] theorem evalE_comp (Γ : Gam) {own} {t} {src} {cond} {elt} {env} : evalE Γ (.comp own t src cond elt) env = (bnd (evalI Γ src env) fun items env =>
      if tgIn own t && own.all (frOk env) && decide (items.length ≤ lim) then match compL (compTurn own (setT t) (evalT Γ cond) (evalE Γ elt)) items (wipeE env own) with
      | some (.ok ds env2) => some (.ok (.val (.lst ds)) (backE env env2 own))
      | _ => none
      else none) := (rfl)
@[simp] theorem evalE_comp2 (Γ : Gam) {own} {t} {src} {own1} {t1} {src1} {elt} {env} : evalE Γ (.comp2 own t src own1 t1 src1 elt) env = (bnd (evalI Γ src env) fun items env =>
      if tgIn own t && tgIn own1 t1 && own1.all (fun i => own.contains i) && own.all (frOk env) then match compL2 (compTurn2 own own1 (setT t) (evalI Γ src1) (compTurn own1 (setT t1) (fun e => some (.ok true e)) (evalE Γ elt))) items (wipeE env own) with
      | some (.ok ds env2) => if ds.length ≤ lim then some (.ok (.val (.lst ds)) (backE env env2 own)) else none
      | _ => none
      else none) := (rfl)
@[simp] theorem evalE_kd0 (Γ : Gam) {env} : evalE Γ (.kd0) env = (some (.ok (.val (.kd [])) env)) := (rfl)
@[simp] theorem evalE_lenk (Γ : Gam) {a} {env} : evalE Γ (.lenk a) env = (bnd (evalE Γ a env) fun p env => match kdP p env with
    | some kvs => some (.ok (.val (.fz (.int kvs.length))) env)
    | none => none) := (rfl)
@[simp] theorem evalE_kcomp (Γ : Gam) {own} {t} {src} {cond} {key} {val} {env} : evalE Γ (.kcomp own t src cond key val) env = (bnd (evalI Γ src env) fun items env =>
      if tgIn own t && own.all (frOk env) && decide (items.length ≤ lim) then match compK (compTurnK own (setT t) (evalT Γ cond) (evalE Γ key) (evalE Γ val)) items (wipeE env own) [] with
      | some (.ok kvs env2) => some (.ok (.val (.kd kvs)) (backE env env2 own))
      | _ => none
      else none) := (rfl)
@[simp] theorem evalDs_nil (Γ : Gam) {env} : evalDs Γ (.nil) env = (some (.ok [] env)) := (rfl)
@[simp] theorem evalDs_cons (Γ : Gam) {e} {es} {env} : evalDs Γ (.cons e es) env = (bnd (evalE Γ e env) fun p env => bnd (frz p env) fun d env => bnd (evalDs Γ es env) fun ds env => some (.ok (d :: ds) env)) := (rfl)
@[simp] theorem evalPs_nil (Γ : Gam) {env} : evalPs Γ (.nil) env = (some (.ok [] env)) := (rfl)
@[simp] theorem evalPs_cons (Γ : Gam) {e} {es} {env} : evalPs Γ (.cons e es) env = (bnd (evalE Γ e env) fun p env => bnd (evalPs Γ es env) fun ps env => if p.still (noeffs es) then some (.ok (p :: ps) env) else none) := (rfl)
@[simp] theorem evalFs_nil (Γ : Gam) {env} : evalFs Γ (.nil) env = (some (.ok [] env)) := (rfl)
@[simp] theorem evalFs_cons (Γ : Gam) {e} {es} {env} : evalFs Γ (.cons e es) env = (bnd (evalE Γ e env) fun p env => bnd (share p env) fun o env => match o with
    | .fz d => bnd (evalFs Γ es env) fun fs env => some (.ok (.fz d :: fs) env)
    | .lst ds => bnd (evalFs Γ es env) fun fs env => some (.ok (.ls ds :: fs) env)
    | _ => none) := (rfl)
@[simp] theorem evalO_none (Γ : Gam) {env} : evalO Γ (.none) env = (some (.ok none env)) := (rfl)
@[simp] theorem evalO_some (Γ : Gam) {e} {env} : evalO Γ (.some e) env = (bnd (evalE Γ e env) fun p env => match flatP p env with
    | some (.int i) => some (.ok (some i) env)
    | _ => none) := (rfl)
@[simp] theorem evalT_yes (Γ : Gam) {env} : evalT Γ (.yes) env = (some (.ok true env)) := (rfl)
@[simp] theorem evalT_and (Γ : Gam) {a} {b} {env} : evalT Γ (.and a b) env = (bnd (evalT Γ a env) fun c env => if c then evalT Γ b env else some (.ok false env)) := (rfl)
@[simp] theorem evalT_or (Γ : Gam) {a} {b} {env} : evalT Γ (.or a b) env = (bnd (evalT Γ a env) fun c env => if c then some (.ok true env) else evalT Γ b env) := (rfl)
@[simp] theorem evalT_not (Γ : Gam) {a} {env} : evalT Γ (.not a) env = (bnd (evalT Γ a env) fun c env => some (.ok (!c) env)) := (rfl)
@[simp] theorem evalT_of (Γ : Gam) {e} {env} : evalT Γ (.of e) env = (bnd (evalE Γ e env) fun p env => match flatP p env with
    | some d => (truthD d).map fun c => .ok c env
    | none => none) := (rfl)
@[simp] theorem evalI_of (Γ : Gam) {e} {env} : evalI Γ (.of e) env = (bnd (evalE Γ e env) fun p env => bnd (frz p env) fun d env => (rowOf d).map fun ds => .ok ds env) := (rfl)
@[simp] theorem evalI_rng (Γ : Gam) {e} {env} : evalI Γ (.rng e) env = (bnd (evalE Γ e env) fun p env => match flatP p env with
    | some (.int n) => if rngOk n then some (.ok (rangeD 0 n.toNat) env) else none
    | _ => none) := (rfl)
@[simp] theorem evalI_rng2 (Γ : Gam) {a} {b} {env} : evalI Γ (.rng2 a b) env = (bnd (evalE Γ a env) fun p env => bnd (evalE Γ b env) fun q env => match flatP p env, flatP q env with
    | some (.int m), some (.int n) => if rngOk m && rngOk n then some (.ok (rangeD m (n - m).toNat) env) else none
    | _, _ => none) := (rfl)
@[simp] theorem evalI_enum (Γ : Gam) {e} {env} : evalI Γ (.enum e) env = (bnd (evalE Γ e env) fun p env => bnd (frz p env) fun d env => match d with
    | .list ds => some (.ok (enumFrom 0 ds) env)
    | .tuple ds => some (.ok (enumFrom 0 ds) env)
    | _ => none) := (rfl)
@[simp] theorem evalI_zip (Γ : Gam) {a} {b} {env} : evalI Γ (.zip a b) env = (bnd (evalE Γ a env) fun p env => bnd (frz p env) fun d env => bnd (evalE Γ b env) fun q env => bnd (frz q env) fun d2 env =>
    match d, d2 with
    | .list as, .list bs => some (.ok (zipD as bs) env)
    | .tuple as, .tuple bs => some (.ok (zipD as bs) env)
    | _, _ => none) := (rfl)
@[simp] theorem evalOs_nil (Γ : Gam) {env} : evalOs Γ (.nil) env = (some (.ok [] env)) := (rfl)
@[simp] theorem evalOs_cons (Γ : Gam) {e} {es} {env} : evalOs Γ (.cons e es) env = (bnd (evalE Γ e env) fun p env => bnd (share p env) fun o env => bnd (evalOs Γ es env) fun os env => some (.ok (o :: os) env)) := (rfl)
@[simp] theorem evalS_asg (Γ : Gam) (pn : Nat) {i} {e} {env} : evalS Γ pn (.asg (.name i) e) env = (if pn ≤ i then sbnd (evalE Γ e env) fun p env => sbnd (share p env) fun o env => some (.nx (env.set i (some o))) else none) := (rfl)
@[simp] theorem evalS_asg_2 (Γ : Gam) (pn : Nat) {l} {e} {env} : evalS Γ pn (.asg (.tup l) e) env = (if l.all (fun i => decide (pn ≤ i)) then sbnd (evalE Γ e env) fun p env => sbnd (frz p env) fun d env => match setT (.tup l) d env with
    | some env => some (.nx env)
    | none => none
    else none) := (rfl)
@[simp] theorem evalS_par (Γ : Gam) (pn : Nat) {l} {es} {env} : evalS Γ pn (.par l es) env = (if l.all (fun i => decide (pn ≤ i)) && decide l.Nodup then sbnd (evalOs Γ es env) fun os env => match setOs env l os with
    | some env => some (.nx env)
    | none => none
    else none) := (rfl)
@[simp] theorem evalS_aug (Γ : Gam) (pn : Nat) {i} {k} {e} {env} : evalS Γ pn (.aug i k e) env = (if pn ≤ i then match slot env i with
    | some (.fz x) => sbnd (evalE Γ e env) fun p env => match (flatP p env).bind (augO k x) with
      | some d => some (.nx (env.set i (some (.fz d))))
      | none => none
    | _ => none
    else none) := (rfl)
@[simp] theorem evalS_put (Γ : Gam) (pn : Nat) {i} {k} {e} {env} : evalS Γ pn (.put i k e) env = (sbnd (evalE Γ e env) fun p env => sbnd (share p env) fun o env => if (slot env i).isSome then sbnd (evalE Γ k env) fun q env => match flatP q env, slot env i with
    | some y, some x => match putO y x o with
      | some x' => some (.nx (env.set i (some x')))
      | none => none
    | _, _ => none
    else none) := (rfl)
@[simp] theorem evalS_putf (Γ : Gam) (pn : Nat) {i} {f} {k} {e} {env} : evalS Γ pn (.putf i f k e) env = (sbnd (evalE Γ e env) fun p env => sbnd (frz p env) fun d env => sbnd (evalE Γ (.fld i f) env) fun r env => sbnd (evalE Γ k env) fun q env =>
    if isPlf r && r.still (noeff k) then match flatP q env, slot env i with
    | some y, some x => match putfO y x (.inr f) d with
      | some x' => some (.nx (env.set i (some x')))
      | none => none
    | _, _ => none
    else none) := (rfl)
@[simp] theorem evalS_append (Γ : Gam) (pn : Nat) {i} {e} {env} : evalS Γ pn (.append i e) env = (if isLst (slot env i) then sbnd (evalE Γ e env) fun p env => sbnd (frz p env) fun d env => match slot env i with
    | some x => match appO x d with
      | some x' => some (.nx (env.set i (some x')))
      | none => none
    | none => none
    else none) := (rfl)
@[simp] theorem evalS_extend (Γ : Gam) (pn : Nat) {i} {e} {env} : evalS Γ pn (.extend i e) env = (if isLst (slot env i) then sbnd (evalE Γ e env) fun p env => match p, slot env i with
    | .val (.lst xs), some (.lst ds) => if ds.length + xs.length ≤ lim then some (.nx (env.set i (some (.lst (ds ++ xs))))) else none
    | _, _ => none
    else none) := (rfl)
@[simp] theorem evalS_expr (Γ : Gam) (pn : Nat) {e} {env} : evalS Γ pn (.expr e) env = (sbnd (evalE Γ e env) fun _ env => some (.nx env)) := (rfl)
@[simp] theorem evalS_ret (Γ : Gam) (pn : Nat) {e} {env} : evalS Γ pn (.ret e) env = (sbnd (evalE Γ e env) fun p env => sbnd (mv p env) fun o env => some (.ret o env)) := (rfl)
@[simp] theorem evalS_retN (Γ : Gam) (pn : Nat) {env} : evalS Γ pn (.retN) env = (some (.ret (.fz .none) env)) := (rfl)
@[simp] theorem evalS_ite (Γ : Gam) (pn : Nat) {t} {a} {b} {env} : evalS Γ pn (.ite t a b) env = (sbnd (evalT Γ t env) fun c env => if c then evalSs Γ pn a env else evalSs Γ pn b env) := (rfl)
@[simp] theorem evalS_for (Γ : Gam) (pn : Nat) {t} {src} {body} {env} : evalS Γ pn (.for_ t src body) env = (if targets pn t then sbnd (evalI Γ src env) fun items env => forL (bodyF (setT t) (evalSs Γ pn body)) items env
    else none) := (rfl)
@[simp] theorem evalS_while (Γ : Gam) (pn : Nat) {t} {body} {env} : evalS Γ pn (.while_ t body) env = (whileL (evalT Γ t) (evalSs Γ pn body) Γ.fuel env) := (rfl)
@[simp] theorem evalS_raise (Γ : Gam) (pn : Nat) {x} {e} {env} : evalS Γ pn (.raise x e) env = (match Γ.ex x with
    | some f => sbnd (evalE Γ e env) fun p env => sbnd (frz p env) fun d env => if scalar d then some (.exc ⟨x, [(f, d)]⟩ env) else none
    | none => none) := (rfl)
@[simp] theorem evalS_tryx (Γ : Gam) (pn : Nat) {body} {x} {i} {f} {hv} {k} {env} : evalS Γ pn (.tryx body x i f hv k) env = (if pn ≤ i ∧ Γ.ex x = some f then tryO x i f hv k pn (evalSs Γ pn body env) else none) := (rfl)
@[simp] theorem evalS_never (Γ : Gam) (pn : Nat) {u0} : evalS Γ pn (.never) u0 = (none) := (rfl)
@[simp] theorem evalS_pass (Γ : Gam) (pn : Nat) {env} : evalS Γ pn (.pass) env = (some (.nx env)) := (rfl)
@[simp] theorem evalS_brk (Γ : Gam) (pn : Nat) {env} : evalS Γ pn (.brk) env = (some (.brk env)) := (rfl)
@[simp] theorem evalS_cnt (Γ : Gam) (pn : Nat) {env} : evalS Γ pn (.cnt) env = (some (.cnt env)) := (rfl)
@[simp] theorem evalSs_nil (Γ : Gam) (pn : Nat) {env} : evalSs Γ pn (.nil) env = (some (.nx env)) := (rfl)
@[simp] theorem evalSs_cons (Γ : Gam) (pn : Nat) {s} {r} {env} : evalSs Γ pn (.cons s r) env = (match evalS Γ pn s env with
    | some (.nx env) => evalSs Γ pn r env
    | r => r) := (rfl)
end NW
end
section
set_option linter.all false
set_option maxRecDepth 100000
/-! NWb: what data are in the abstract heap; owned things; what a step keeps -/
namespace NW
open PySem L2
open Classical in
/-- the abstract heap as frozen data may read it: lists in G alone -/
noncomputable def HG (H : Hp) (G : Addr → Prop) : Hp := fun a => match H a with
  | some (.lst xs) => if G a then some (.lst xs) else none
  | x => x
theorem HG_lst {H : Hp} {G : Addr → Prop} {a : Addr} {xs : List V} : HG H G a = some (.lst xs) ↔ H a = some (.lst xs) ∧ G a := by
  unfold HG
  split
  · rename_i ys h
    split
    · rename_i g
      rw [h]; exact ⟨fun e => ⟨e, g⟩, fun e => e.1⟩
    · rename_i g
      exact ⟨fun e => (nomatch e), fun e => (g e.2).elim⟩
  · rename_i hn
    exact ⟨fun e => (hn xs e).elim, fun e => (hn xs e.1).elim⟩
theorem HG_tup {H : Hp} {G : Addr → Prop} {a : Addr} {xs : List V} : HG H G a = some (.tup xs) ↔ H a = some (.tup xs) := by
  unfold HG
  split
  · rename_i ys h
    split
    · exact ⟨fun e => (nomatch e), fun e => by rw [h] at e; cases e⟩
    · exact ⟨fun e => (nomatch e), fun e => by rw [h] at e; cases e⟩
  · exact Iff.rfl
theorem HG_frz {H : Hp} {G : Addr → Prop} {a : Addr} {o : Obj} {u : HO} : HG H G a = some (.frz o u) ↔ H a = some (.frz o u) := by
  unfold HG
  split
  · rename_i ys h
    split
    · exact ⟨fun e => (nomatch e), fun e => by rw [h] at e; cases e⟩
    · exact ⟨fun e => (nomatch e), fun e => by rw [h] at e; cases e⟩
  · exact Iff.rfl
/-- H' reads all sequences that H does -/
structure Sub (K : PySem.W.Frag) (H H' : Hp) : Prop where
  l : ∀ a xs, SqL K H a xs → SqL K H' a xs
  t : ∀ a xs, SqT K H a xs → SqT K H' a xs
mutual
theorem dp_mono {K : PySem.W.Frag} {H H' : Hp} (s : Sub K H H') : ∀ (d : PyData) (v : V), Dp K H v d → Dp K H' v d
  | .none, _, h => by cases h; exact .non
  | .bool _, _, h => by cases h; exact .bl _
  | .int _, _, h => by cases h; exact .int _
  | .str _, _, h => by cases h; exact .str _
  | .list ds, _, h => by
    cases h with
    | lst h1 h2 => exact .lst (s.l _ _ h1) (dpAll_mono s ds _ h2)
  | .tuple ds, _, h => by
    cases h with
    | tup h1 h2 => exact .tup (s.t _ _ h1) (dpAll_mono s ds _ h2)
  | .dict _, _, h => by cases h
theorem dpAll_mono {K : PySem.W.Frag} {H H' : Hp} (s : Sub K H H') : ∀ (ds : List PyData) (vs : List V), DpAll K H vs ds → DpAll K H' vs ds
  | [], _, h => by cases h; exact .nil
  | d :: ds, _, h => by
    cases h with
    | cons h1 h2 => exact .cons (dp_mono s d _ h1) (dpAll_mono s ds _ h2)
end
theorem sub_forget (K : PySem.W.Frag) (H : Hp) (G : Addr → Prop) : Sub K (HG H G) H where
  l := fun a xs h => by
    rcases h with (h | ⟨o, h⟩) | h
    · exact .inl (.inl (HG_lst.mp h).1)
    · exact .inl (.inr ⟨o, HG_frz.mp h⟩)
    · exact .inr h
  t := fun a xs h => by
    rcases h with (h | ⟨o, h⟩) | h
    · exact .inl (.inl (HG_tup.mp h))
    · exact .inl (.inr ⟨o, HG_frz.mp h⟩)
    · exact .inr h

abbrev Rp (K : PySem.W.Frag) (H : Hp) (G : Addr → Prop) (v : V) (d : D) : Prop := Dp K (HG H G) v d
abbrev RpA (K : PySem.W.Frag) (H : Hp) (G : Addr → Prop) (vs : List V) (ds : List D) : Prop := DpAll K (HG H G) vs ds
/-- readable: the row itself at any place, its items frozen -/
def RpS (K : PySem.W.Frag) (H : Hp) (G : Addr → Prop) (v : V) : D → Prop
  | .list ds => ∃ a xs, v = .ref a ∧ SqL K H a xs ∧ RpA K H G xs ds
  | d => Rp K H G v d
theorem Rp.s {K : PySem.W.Frag} {H : Hp} {G : Addr → Prop} {v : V} {d : D} (h : Rp K H G v d) : RpS K H G v d := by
  cases d with
  | list ds =>
    cases h with
    | lst h1 h2 => exact ⟨_, _, rfl, (sub_forget K H G).l _ _ h1, h2⟩
  | none => exact h
  | bool b => exact h
  | int i => exact h
  | str x => exact h
  | tuple ds => exact h
  | dict kvs => exact h
theorem RpS.dp {K : PySem.W.Frag} {H : Hp} {G : Addr → Prop} {v : V} {d : D} (h : RpS K H G v d) : Dp K H v d := by
  cases d with
  | list ds =>
    obtain ⟨a, xs, rfl, h1, h2⟩ := h
    exact .lst h1 (dpAll_mono (sub_forget K H G) _ _ h2)
  | none => exact dp_mono (sub_forget K H G) _ _ h
  | bool b => exact dp_mono (sub_forget K H G) _ _ h
  | int i => exact dp_mono (sub_forget K H G) _ _ h
  | str x => exact dp_mono (sub_forget K H G) _ _ h
  | tuple ds => exact dp_mono (sub_forget K H G) _ _ h
  | dict kvs => exact dp_mono (sub_forget K H G) _ _ h
theorem dpAll_length {K : PySem.W.Frag} {H : Hp} : ∀ {vs : List V} {ds : List D}, DpAll K H vs ds → vs.length = ds.length
  | _, _, .nil => rfl
  | _, _, .cons _ t => by rw [List.length_cons, List.length_cons, dpAll_length t]
theorem dpAll_append {K : PySem.W.Frag} {H : Hp} : ∀ {vs ws : List V} {ds es : List D}, DpAll K H vs ds → DpAll K H ws es → DpAll K H (vs ++ ws) (ds ++ es)
  | _, _, _, _, .nil, h => h
  | _, _, _, _, .cons a t, h => .cons a (dpAll_append t h)
theorem dpAll_get {K : PySem.W.Frag} {H : Hp} : ∀ {vs : List V} {ds : List D} {i : Nat} {d : D}, DpAll K H vs ds → ds[i]? = some d → ∃ v, vs[i]? = some v ∧ Dp K H v d
  | _, _, i, d, .nil, h => by simp at h
  | _, _, 0, d, .cons a t, h => by simp at h; subst h; exact ⟨_, rfl, a⟩
  | _, _, i + 1, d, .cons a t, h => by
    obtain ⟨v, h1, h2⟩ := dpAll_get (i := i) t (by simpa using h)
    exact ⟨v, by simpa using h1, h2⟩
theorem dpAll_getV {K : PySem.W.Frag} {H : Hp} {vs : List V} {ds : List D} {i : Nat} {v : V} (h : DpAll K H vs ds) (e : vs[i]? = some v) : ∃ d, ds[i]? = some d ∧ Dp K H v d := by
  have hl := dpAll_length h
  have hi : i < ds.length := by rw [← hl]; exact (List.getElem?_eq_some_iff.mp e).1
  obtain ⟨w, h1, h2⟩ := dpAll_get h (List.getElem?_eq_getElem hi)
  rw [e] at h1
  cases h1
  exact ⟨_, List.getElem?_eq_getElem hi, h2⟩
theorem dpAll_take {K : PySem.W.Frag} {H : Hp} : ∀ {vs : List V} {ds : List D} (n : Nat), DpAll K H vs ds → DpAll K H (vs.take n) (ds.take n)
  | _, _, 0, _ => .nil
  | _, _, _ + 1, .nil => .nil
  | _, _, n + 1, .cons a t => .cons a (dpAll_take n t)
theorem dpAll_drop {K : PySem.W.Frag} {H : Hp} : ∀ {vs : List V} {ds : List D} (n : Nat), DpAll K H vs ds → DpAll K H (vs.drop n) (ds.drop n)
  | _, _, 0, h => h
  | _, _, _ + 1, .nil => .nil
  | _, _, n + 1, .cons a t => dpAll_drop n t
theorem dpAll_cut {K : PySem.W.Frag} {H : Hp} {vs : List V} {ds : List D} (lo hi : Option Int) (h : DpAll K H vs ds) : DpAll K H (cutV vs lo hi) (cutD ds lo hi) := by
  unfold cutV cutD
  rw [dpAll_length h]
  exact dpAll_take _ (dpAll_drop _ h)
theorem dpAll_set {K : PySem.W.Frag} {H : Hp} {v : V} {d : D} (a : Dp K H v d) : ∀ {vs : List V} {ds : List D} (n : Nat), DpAll K H vs ds → DpAll K H (vs.set n v) (ds.set n d)
  | _, _, _, .nil => .nil
  | _, _, 0, .cons _ t => .cons a t
  | _, _, n + 1, .cons b t => .cons b (dpAll_set a n t)

/-! ### owned things -/
/-- a field: its value, the place that it holds -/
def OwF (K : PySem.W.Frag) (H : Hp) (G : Addr → Prop) : Fld → V → List Addr → Prop
  | .fz d, v, fp => fp = [] ∧ Rp K H G v d
  | .ls ds, v, fp => ∃ a xs, v = .ref a ∧ fp = [a] ∧ ¬ G a ∧ H a = some (.lst xs) ∧ RpA K H G xs ds
def OwFs (K : PySem.W.Frag) (H : Hp) (G : Addr → Prop) : List (Key × Fld) → List (Key × V) → List Addr → Prop
  | [], [], fp => fp = []
  | (k, f) :: r, (k', v) :: rv, fp => k = k' ∧ ∃ fp1 fp2, fp = fp1 ++ fp2 ∧ (∀ a ∈ fp1, a ∉ fp2) ∧ OwF K H G f v fp1 ∧ OwFs K H G r rv fp2
  | _, _, _ => False
def KdRel (K : PySem.W.Frag) (H : Hp) (G : Addr → Prop) : List KE → List (D × D) → Prop := Paired fun x p => nkey p.1 = some x.1 ∧ x.1.depth ≤ 8 ∧ Rp K H G (.ref x.2.1) p.1 ∧ ∃ v, RelV v x.2.2 ∧ Rp K H G v p.2
theorem KdRel.mono {K : PySem.W.Frag} {H H' : Hp} {G G' : Addr → Prop} (s : Sub K (HG H G) (HG H' G')) {xs : List KE} {kvs : List (D × D)} (h : KdRel K H G xs kvs) : KdRel K H' G' xs kvs :=
  Paired.mapP h fun x p z => ⟨z.1, z.2.1, dp_mono s _ _ z.2.2.1, z.2.2.2.choose, z.2.2.2.choose_spec.1, dp_mono s _ _ z.2.2.2.choose_spec.2⟩
def Ow (K : PySem.W.Frag) (H : Hp) (G : Addr → Prop) : O → V → List Addr → Prop
  | .fz d, v, fp => fp = [] ∧ Rp K H G v d
  | .lst ds, v, fp => ∃ a xs, v = .ref a ∧ fp = [a] ∧ ¬ G a ∧ H a = some (.lst xs) ∧ RpA K H G xs ds
  | .dct kvs, v, fp => ∃ a rv fp', v = .ref a ∧ fp = a :: fp' ∧ a ∉ fp' ∧ ¬ G a ∧ H a = some (.dK rv) ∧ OwFs K H G kvs rv fp'
  | .kd kvs, v, fp => ∃ a xs, v = .ref a ∧ fp = [a] ∧ ¬ G a ∧ H a = some (.ext (RawD a xs)) ∧ KdRel K H G xs kvs ∧ (xs.map (·.1)).Nodup

/-- what stays behind a step: F the places that the names hold -/
structure Step (H : Hp) (G F : Addr → Prop) (H' : Hp) (G' F' : Addr → Prop) : Prop where
  keep : ∀ b u, H b = some u → ¬ F b → H' b = some u
  tups : ∀ b xs, H b = some (.tup xs) → H' b = some (.tup xs)
  frzs : ∀ b o u, H b = some (.frz o u) → H' b = some (.frz o u)
  gsub : ∀ b, G b → G' b
  gnew : ∀ b, G' b → G b ∨ F b ∨ H b = none
  fnew : ∀ b, F' b → F b ∨ H b = none
theorem Step.refl {H : Hp} {G F : Addr → Prop} : Step H G F H G F := ⟨fun _ _ h _ => h, fun _ _ h => h, fun _ _ _ h => h, fun _ h => h, fun _ h => .inl h, fun _ h => .inl h⟩
theorem Step.none_of {H : Hp} {G F : Addr → Prop} {H' : Hp} {G' F' : Addr → Prop} (s : Step H G F H' G' F') {b : Addr} (h : H' b = none) : H b = none ∨ F b := by
  cases q : H b with
  | none => exact .inl rfl
  | some u =>
    by_cases f : F b
    · exact .inr f
    · rw [s.keep b u q f] at h; cases h
theorem Step.trans {H H1 H2 : Hp} {G F G1 F1 G2 F2 : Addr → Prop} (a : Step H G F H1 G1 F1) (b : Step H1 G1 F1 H2 G2 F2) : Step H G F H2 G2 F2 where
  keep := fun c u h nf => by
    have h1 := a.keep c u h nf
    refine b.keep c u h1 fun f1 => ?_
    rcases a.fnew c f1 with z | z
    · exact nf z
    · rw [h] at z; cases z
  tups := fun c xs h => b.tups c xs (a.tups c xs h)
  frzs := fun c o u h => b.frzs c o u (a.frzs c o u h)
  gsub := fun c h => b.gsub c (a.gsub c h)
  gnew := fun c h => by
    rcases b.gnew c h with z | z | z
    · exact a.gnew c z
    · exact .inr (a.fnew c z)
    · rcases a.none_of z with y | y
      · exact .inr (.inr y)
      · exact .inr (.inl y)
  fnew := fun c h => by
    rcases b.fnew c h with z | z
    · exact a.fnew c z
    · exact (a.none_of z).symm
theorem Step.sub {K : PySem.W.Frag} {H H' : Hp} {G F G' F' : Addr → Prop} (s : Step H G F H' G' F') (dis : ∀ b, G b → ¬ F b) : Sub K (HG H G) (HG H' G') where
  l := fun a xs h => by
    rcases h with (h | ⟨o, h⟩) | h
    · obtain ⟨h, g⟩ := HG_lst.mp h
      exact .inl (.inl (HG_lst.mpr ⟨s.keep a _ h (dis a g), s.gsub a g⟩))
    · exact .inl (.inr ⟨o, HG_frz.mpr (s.frzs _ _ _ (HG_frz.mp h))⟩)
    · exact .inr h
  t := fun a xs h => by
    rcases h with (h | ⟨o, h⟩) | h
    · exact .inl (.inl (HG_tup.mpr (s.tups _ _ (HG_tup.mp h))))
    · exact .inl (.inr ⟨o, HG_frz.mpr (s.frzs _ _ _ (HG_frz.mp h))⟩)
    · exact .inr h
theorem OwF.step {K : PySem.W.Frag} {H H' : Hp} {G F G' F' : Addr → Prop} (s : Step H G F H' G' F') (dis : ∀ b, G b → ¬ F b) {f : Fld} {v : V} {fp : List Addr} (hf : ∀ b ∈ fp, ¬ F b) (h : OwF K H G f v fp) : OwF K H' G' f v fp := by
  cases f with
  | fz d => exact ⟨h.1, dp_mono (s.sub dis) _ _ h.2⟩
  | ls ds =>
    obtain ⟨a, xs, rfl, rfl, ng, hl, hr⟩ := h
    have nf := hf a (by simp)
    refine ⟨a, xs, rfl, rfl, fun g => ?_, s.keep a _ hl nf, dpAll_mono (s.sub dis) _ _ hr⟩
    rcases s.gnew a g with z | z | z
    · exact ng z
    · exact nf z
    · rw [hl] at z; cases z
theorem OwFs.step {K : PySem.W.Frag} {H H' : Hp} {G F G' F' : Addr → Prop} (s : Step H G F H' G' F') (dis : ∀ b, G b → ¬ F b) : ∀ {kvs : List (Key × Fld)} {rv : List (Key × V)} {fp : List Addr}, (∀ b ∈ fp, ¬ F b) → OwFs K H G kvs rv fp → OwFs K H' G' kvs rv fp
  | [], [], fp, _, h => h
  | (k, f) :: r, (k', v) :: rv, fp, hf, h => by
    obtain ⟨e, fp1, fp2, rfl, dj, h1, h2⟩ := h
    exact ⟨e, fp1, fp2, rfl, dj, h1.step s dis fun b hb => hf b (List.mem_append_left _ hb), OwFs.step s dis (fun b hb => hf b (List.mem_append_right _ hb)) h2⟩
  | [], _ :: _, _, _, h => h.elim
  | _ :: _, [], _, _, h => h.elim
theorem Ow.step {K : PySem.W.Frag} {H H' : Hp} {G F G' F' : Addr → Prop} (s : Step H G F H' G' F') (dis : ∀ b, G b → ¬ F b) {o : O} {v : V} {fp : List Addr} (hf : ∀ b ∈ fp, ¬ F b) (h : Ow K H G o v fp) : Ow K H' G' o v fp := by
  cases o with
  | fz d => exact ⟨h.1, dp_mono (s.sub dis) _ _ h.2⟩
  | lst ds =>
    obtain ⟨a, xs, rfl, rfl, ng, hl, hr⟩ := h
    have nf := hf a (by simp)
    refine ⟨a, xs, rfl, rfl, fun g => ?_, s.keep a _ hl nf, dpAll_mono (s.sub dis) _ _ hr⟩
    rcases s.gnew a g with z | z | z
    · exact ng z
    · exact nf z
    · rw [hl] at z; cases z
  | dct kvs =>
    obtain ⟨a, rv, fp', rfl, rfl, na, ng, hl, hr⟩ := h
    have nf := hf a (by simp)
    refine ⟨a, rv, fp', rfl, rfl, na, fun g => ?_, s.keep a _ hl nf, hr.step s dis fun b hb => hf b (List.mem_cons_of_mem _ hb)⟩
    rcases s.gnew a g with z | z | z
    · exact ng z
    · exact nf z
    · rw [hl] at z; cases z
  | kd kvs =>
    obtain ⟨a, xs, rfl, rfl, ng, hl, hr, hn⟩ := h
    have nf := hf a (by simp)
    refine ⟨a, xs, rfl, rfl, fun g => ?_, s.keep a _ hl nf, hr.mono (s.sub dis), hn⟩
    rcases s.gnew a g with z | z | z
    · exact ng z
    · exact nf z
    · rw [hl] at z; cases z
theorem OwF.mono {K : PySem.W.Frag} {H H' : Hp} {G G' : Addr → Prop} (s : Sub K (HG H G) (HG H' G')) {f : Fld} {v : V} {fp : List Addr} (k : ∀ b ∈ fp, ∀ u, H b = some u → H' b = some u) (ng' : ∀ b ∈ fp, ¬ G' b) (h : OwF K H G f v fp) : OwF K H' G' f v fp := by
  cases f with
  | fz d => exact ⟨h.1, dp_mono s _ _ h.2⟩
  | ls ds =>
    obtain ⟨a, xs, rfl, rfl, ng, hl, hr⟩ := h
    exact ⟨a, xs, rfl, rfl, ng' a (by simp), k a (by simp) _ hl, dpAll_mono s _ _ hr⟩
theorem OwFs.mono {K : PySem.W.Frag} {H H' : Hp} {G G' : Addr → Prop} (s : Sub K (HG H G) (HG H' G')) : ∀ {kvs : List (Key × Fld)} {rv : List (Key × V)} {fp : List Addr}, (∀ b ∈ fp, ∀ u, H b = some u → H' b = some u) → (∀ b ∈ fp, ¬ G' b) → OwFs K H G kvs rv fp → OwFs K H' G' kvs rv fp
  | [], [], fp, _, _, h => h
  | (k, f) :: r, (k', v) :: rv, fp, hk, hg, h => by
    obtain ⟨e, fp1, fp2, rfl, dj, h1, h2⟩ := h
    exact ⟨e, fp1, fp2, rfl, dj, h1.mono s (fun b hb => hk b (List.mem_append_left _ hb)) (fun b hb => hg b (List.mem_append_left _ hb)), OwFs.mono s (fun b hb => hk b (List.mem_append_right _ hb)) (fun b hb => hg b (List.mem_append_right _ hb)) h2⟩
  | [], _ :: _, _, _, _, h => h.elim
  | _ :: _, [], _, _, _, h => h.elim
theorem Ow.mono {K : PySem.W.Frag} {H H' : Hp} {G G' : Addr → Prop} (s : Sub K (HG H G) (HG H' G')) {o : O} {v : V} {fp : List Addr} (k : ∀ b ∈ fp, ∀ u, H b = some u → H' b = some u) (ng' : ∀ b ∈ fp, ¬ G' b) (h : Ow K H G o v fp) : Ow K H' G' o v fp := by
  cases o with
  | fz d => exact ⟨h.1, dp_mono s _ _ h.2⟩
  | lst ds =>
    obtain ⟨a, xs, rfl, rfl, ng, hl, hr⟩ := h
    exact ⟨a, xs, rfl, rfl, ng' a (by simp), k a (by simp) _ hl, dpAll_mono s _ _ hr⟩
  | dct kvs =>
    obtain ⟨a, rv, fp', rfl, rfl, na, ng, hl, hr⟩ := h
    exact ⟨a, rv, fp', rfl, rfl, na, ng' a (by simp), k a (by simp) _ hl, hr.mono s (fun b hb => k b (List.mem_cons_of_mem _ hb)) (fun b hb => ng' b (List.mem_cons_of_mem _ hb))⟩
  | kd kvs =>
    obtain ⟨a, xs, rfl, rfl, ng, hl, hr, hn⟩ := h
    exact ⟨a, xs, rfl, rfl, ng' a (by simp), k a (by simp) _ hl, hr.mono s, hn⟩
theorem sub_G {K : PySem.W.Frag} {H : Hp} {G G' : Addr → Prop} (h : ∀ b, G b → G' b) : Sub K (HG H G) (HG H G') where
  l := fun a xs z => by
    rcases z with (z | ⟨o, z⟩) | z
    · obtain ⟨z, g⟩ := HG_lst.mp z
      exact .inl (.inl (HG_lst.mpr ⟨z, h a g⟩))
    · exact .inl (.inr ⟨o, HG_frz.mpr (HG_frz.mp z)⟩)
    · exact .inr z
  t := fun a xs z => by
    rcases z with (z | ⟨o, z⟩) | z
    · exact .inl (.inl (HG_tup.mpr (HG_tup.mp z)))
    · exact .inl (.inr ⟨o, HG_frz.mpr (HG_frz.mp z)⟩)
    · exact .inr z
/-- a held list, frozen -/
theorem ow_freeze {K : PySem.W.Frag} {H : Hp} {G : Addr → Prop} {o : O} {d : D} {v : V} {fp : List Addr} (h : Ow K H G o v fp) (e : o.flat = some d) {G' : Addr → Prop} (hs : ∀ b, G b → G' b) (hf : ∀ b ∈ fp, G' b) : Rp K H G' v d := by
  cases o with
  | fz d' => cases e; exact dp_mono (sub_G hs) _ _ h.2
  | lst ds =>
    cases e
    obtain ⟨a, xs, rfl, rfl, ng, hl, hr⟩ := h
    exact .lst (.inl (.inl (HG_lst.mpr ⟨hl, hf a (by simp)⟩))) (dpAll_mono (sub_G hs) _ _ hr)
  | dct kvs => cases e
  | kd kvs => cases e
/-- what is held is neither frozen nor nothing -/
theorem OwF.held {K : PySem.W.Frag} {H : Hp} {G : Addr → Prop} {f : Fld} {v : V} {fp : List Addr} (h : OwF K H G f v fp) : ∀ b ∈ fp, ¬ G b ∧ ∃ u, H b = some u := by
  cases f with
  | fz d => intro b hb; rw [h.1] at hb; cases hb
  | ls ds =>
    obtain ⟨a, xs, rfl, rfl, ng, hl, hr⟩ := h
    intro b hb
    have e : b = a := by simpa using hb
    subst e
    exact ⟨ng, _, hl⟩
theorem OwFs.held {K : PySem.W.Frag} {H : Hp} {G : Addr → Prop} : ∀ {kvs : List (Key × Fld)} {rv : List (Key × V)} {fp : List Addr}, OwFs K H G kvs rv fp → ∀ b ∈ fp, ¬ G b ∧ ∃ u, H b = some u
  | [], [], fp, h => by
    intro b hb
    have e : fp = [] := h
    rw [e] at hb; cases hb
  | (k, f) :: r, (k', v) :: rv, fp, h => by
    obtain ⟨e, fp1, fp2, rfl, dj, h1, h2⟩ := h
    intro b hb
    rcases List.mem_append.mp hb with z | z
    · exact h1.held b z
    · exact OwFs.held h2 b z
  | [], _ :: _, _, h => h.elim
  | _ :: _, [], _, h => h.elim
theorem Ow.held {K : PySem.W.Frag} {H : Hp} {G : Addr → Prop} {o : O} {v : V} {fp : List Addr} (h : Ow K H G o v fp) : ∀ b ∈ fp, ¬ G b ∧ ∃ u, H b = some u := by
  cases o with
  | fz d => intro b hb; rw [h.1] at hb; cases hb
  | lst ds =>
    obtain ⟨a, xs, rfl, rfl, ng, hl, hr⟩ := h
    intro b hb
    have e : b = a := by simpa using hb
    subst e
    exact ⟨ng, _, hl⟩
  | dct kvs =>
    obtain ⟨a, rv, fp', rfl, rfl, na, ng, hl, hr⟩ := h
    intro b hb
    rcases List.mem_cons.mp hb with rfl | z
    · exact ⟨ng, _, hl⟩
    · exact hr.held b z
  | kd kvs =>
    obtain ⟨a, xs, rfl, rfl, ng, hl, hr, hn⟩ := h
    intro b hb
    have e : b = a := by simpa using hb
    subst e
    exact ⟨ng, _, hl⟩

/-! ### the names -/
abbrev Fs := Nat → List Addr
def FF (fps : Fs) : Addr → Prop := fun b => ∃ i, b ∈ fps i
structure EnvR (K : PySem.W.Frag) (env : Env) (σ : St) (H : Hp) (G : Addr → Prop) (fps : Fs) : Prop where
  gh : ∀ b, G b → ∃ u, H b = some u
  len : env.length = σ.length
  rep : ∀ i o, slot env i = some o → ∃ v, σ[i]? = some (some v) ∧ Ow K H G o v (fps i)
  emp : ∀ i, slot env i = none → fps i = []
  dis : ∀ i j a, a ∈ fps i → a ∈ fps j → i = j
theorem EnvR.held {K : PySem.W.Frag} {env : Env} {σ : St} {H : Hp} {G : Addr → Prop} {fps : Fs} (E : EnvR K env σ H G fps) {b : Addr} (h : FF fps b) : ¬ G b ∧ ∃ u, H b = some u := by
  obtain ⟨i, hi⟩ := h
  cases e : slot env i with
  | none => rw [E.emp i e] at hi; cases hi
  | some o =>
    obtain ⟨v, _, ho⟩ := E.rep i o e
    exact ho.held b hi
theorem EnvR.gf {K : PySem.W.Frag} {env : Env} {σ : St} {H : Hp} {G : Addr → Prop} {fps : Fs} (E : EnvR K env σ H G fps) : ∀ b, G b → ¬ FF fps b := fun b g f => (E.held f).1 g
theorem slot_set {env : Env} {i j : Nat} {o : Option O} (hi : i < env.length) : slot (env.set i o) j = if j = i then o else slot env j := by
  unfold slot
  by_cases h : j = i
  · subst h
    rw [if_pos rfl, List.getElem?_set_self hi]
    rfl
  · rw [if_neg h, List.getElem?_set_ne (Ne.symm h)]
theorem slot_lt {env : Env} {i : Nat} {o : O} (h : slot env i = some o) : i < env.length := by
  unfold slot at h
  cases q : env[i]? with
  | none => rw [q] at h; cases h
  | some x => exact (List.getElem?_eq_some_iff.mp q).1
def updF (fps : Fs) (i : Nat) (fp : List Addr) : Fs := fun j => if j = i then fp else fps j
theorem updF_same {fps : Fs} {i : Nat} {fp : List Addr} : updF fps i fp i = fp := by unfold updF; rw [if_pos rfl]
theorem updF_ne {fps : Fs} {i j : Nat} {fp : List Addr} (h : j ≠ i) : updF fps i fp j = fps j := by unfold updF; rw [if_neg h]

/-- a value's relation -/
def PR (K : PySem.W.Frag) (H : Hp) (G : Addr → Prop) (σ : St) (env : Env) : P → V → List Addr → Prop
  | .val o, v, fp => Ow K H G o v fp
  | .plc i, v, fp => fp = [] ∧ σ[i]? = some (some v)
  | .plf i k, v, fp => fp = [] ∧ ∃ a rv, σ[i]? = some (some (.ref a)) ∧ H a = some (.dK rv) ∧ valV rv k = some v
theorem owf_s {K : PySem.W.Frag} {H : Hp} {G : Addr → Prop} {ds : List D} {v : V} {fp : List Addr} (h : OwF K H G (.ls ds) v fp) : RpS K H G v (.list ds) := by
  obtain ⟨a, xs, rfl, rfl, ng, hl, hr⟩ := h
  exact ⟨a, xs, rfl, SqL.of hl, hr⟩
theorem ow_flat {K : PySem.W.Frag} {H : Hp} {G : Addr → Prop} {o : O} {d : D} {v : V} {fp : List Addr} (h : Ow K H G o v fp) (e : o.flat = some d) : RpS K H G v d := by
  cases o with
  | fz d' => cases e; exact Rp.s h.2
  | lst ds =>
    cases e
    obtain ⟨a, xs, rfl, rfl, ng, hl, hr⟩ := h
    exact ⟨a, xs, rfl, SqL.of hl, hr⟩
  | dct kvs => cases e
  | kd kvs => cases e
theorem look_val {K : PySem.W.Frag} {H : Hp} {G : Addr → Prop} {k : Key} {f : Fld} : ∀ {kvs : List (Key × Fld)} {rv : List (Key × V)} {fp : List Addr}, OwFs K H G kvs rv fp → look kvs k = some f → ∃ v fp1, valV rv k = some v ∧ OwF K H G f v fp1 ∧ ∀ b ∈ fp1, b ∈ fp
  | [], [], fp, h, e => by cases e
  | (k0, f0) :: r, (k', v) :: rv, fp, h, e => by
    obtain ⟨rfl, fp1, fp2, rfl, dj, h1, h2⟩ := h
    by_cases hk : k0 = k
    · have e' : f0 = f := by
        unfold look at e
        rw [List.find?_cons_of_pos (by simpa using hk)] at e
        simpa using e
      subst e'
      exact ⟨v, fp1, valV_pos hk, h1, fun b hb => List.mem_append_left _ hb⟩
    · have e' : look r k = some f := by
        unfold look at e ⊢
        rw [List.find?_cons_of_neg (by simpa using hk)] at e
        exact e
      obtain ⟨w, fp', q1, q2, q3⟩ := look_val h2 e'
      exact ⟨w, fp', by rw [valV_neg hk]; exact q1, q2, fun b hb => List.mem_append_right _ (q3 b hb)⟩
  | [], _ :: _, _, h, _ => h.elim
  | _ :: _, [], _, h, _ => h.elim
theorem pr_flat {K : PySem.W.Frag} {env : Env} {σ : St} {H : Hp} {G : Addr → Prop} {fps : Fs} (E : EnvR K env σ H G fps) {p : P} {v : V} {fp : List Addr} {d : D} (h : PR K H G σ env p v fp) (e : flatP p env = some d) : RpS K H G v d := by
  cases p with
  | val o => exact ow_flat h e
  | plc i =>
    obtain ⟨_, hs⟩ := h
    have e0 : (slot env i).bind O.flat = some d := e
    cases ho : slot env i with
    | none => rw [ho] at e0; cases e0
    | some o =>
      rw [ho] at e0
      obtain ⟨w, hw, how⟩ := E.rep i o ho
      rw [hs] at hw
      cases hw
      exact ow_flat how e0
  | plf i k =>
    obtain ⟨_, a, rv, hs, hH, hv⟩ := h
    unfold flatP at e
    simp only at e
    split at e
    · rename_i kvs hk
      split at e
      · rename_i ds hd
        cases e
        obtain ⟨w, hw, how⟩ := E.rep i _ hk
        rw [hs] at hw
        cases hw
        obtain ⟨a', rv', fp', e1, e2, na, ng, hl, hr⟩ := how
        cases e1
        rw [hH] at hl
        cases hl
        obtain ⟨w, fp1, q1, q2, _⟩ := look_val hr hd
        rw [hv] at q1
        cases q1
        exact owf_s q2
      · cases e
    · cases e
end NW
end
section
set_option linter.all false
set_option maxRecDepth 100000
set_option maxHeartbeats 1000000
/-! NWc: the operators and built-ins on data -/
namespace NW
open PySem L2 PyProof.Rows
theorem lim_eq : lim = sizeLine := by rw [sizeLine_eq]

/-- readings as they are -/
def tE (X : Cx) (e : Expr) (σ : L2.St) (H : Hp) (Q : VK) : Prop := ∀ pins s, Inv X pins σ H s → wpAny (model X.prog X.w) X.A (eval e X.env) (EP X pins σ Q) X.xe s
def tT (X : Cx) (e : Expr) (σ : L2.St) (H : Hp) (Q : Bool → Hp → Prop) : Prop := ∀ pins s, Inv X pins σ H s → wpAny (model X.prog X.w) X.A (isTrue e X.env (eval e X.env)) (TP X pins σ Q) X.xe s
def tA (X : Cx) (es : List Expr) (σ : L2.St) (H : Hp) (Q : List V → Hp → Prop) : Prop := ∀ pos pins s, Inv X pins σ H s → wpAny (model X.prog X.w) X.A (spliced (backTo pos (starEach es X.env))) (AP X pins σ Q) X.xe s
def tS (X : Cx) (st : Stmt) (D : Ends) (σ : L2.St) (H : Hp) : Prop := ∀ pins s, Inv X pins σ H s → wpAny (model X.prog X.w) X.A (exec st X.env) (SP X pins D) X.xe s
def tSs (X : Cx) (st : List Stmt) (D : Ends) (σ : L2.St) (H : Hp) : Prop := ∀ pins s, Inv X pins σ H s → wpAny (model X.prog X.w) X.A (execs st X.env) (SP X pins D) X.xe s
def tI (X : Cx) (tg iter : Expr) (σ : L2.St) (H : Hp) (R : It → Hp → Prop) : Prop := ∀ pins s, Inv X pins σ H s → wpAny (model X.prog X.w) X.A (eval iter X.env) (fun v s1 => wpAny (model X.prog X.w) X.A (pyIter v) (PIE X pins σ tg R) X.xe s1) X.xe s
theorem peS (X : Cx) (e : Expr) : PE X e (tE X e) := ⟨fun pins s σ H Q I h => h pins s I⟩
theorem ptS (X : Cx) (e : Expr) : PT X e (tT X e) := ⟨fun pins s σ H Q I h => h pins s I⟩
theorem paS (X : Cx) (es : List Expr) : PA X es (tA X es) := ⟨fun pos pins s σ H Q I h => h pos pins s I⟩
theorem psS (X : Cx) (st : Stmt) : PS X st (tS X st) := ⟨fun pins s σ H D I h => h pins s I⟩
theorem pssS (X : Cx) (st : List Stmt) : PSs X st (tSs X st) := ⟨fun pins s σ H D I h => h pins s I⟩
theorem piS (X : Cx) (tg iter : Expr) : PI X tg iter (tI X tg iter) := ⟨fun pins s σ H R I h => h pins s I⟩
theorem tE_of {X : Cx} {e : Expr} {t : TE} (h : PE X e t) {σ : L2.St} {H : Hp} {Q : VK} (q : t σ H Q) : tE X e σ H Q := fun pins s I => h.run pins s σ H Q I q
theorem tT_of {X : Cx} {e : Expr} {t : TT} (h : PT X e t) {σ : L2.St} {H : Hp} {Q : Bool → Hp → Prop} (q : t σ H Q) : tT X e σ H Q := fun pins s I => h.run pins s σ H Q I q
theorem tA_of {X : Cx} {es : List Expr} {t : TA} (h : PA X es t) {σ : L2.St} {H : Hp} {Q : List V → Hp → Prop} (q : t σ H Q) : tA X es σ H Q := fun pos pins s I => h.run pos pins s σ H Q I q
theorem tS_of {X : Cx} {st : Stmt} {t : TS} (h : PS X st t) {D : Ends} {σ : L2.St} {H : Hp} (q : t D σ H) : tS X st D σ H := fun pins s I => h.run pins s σ H D I q
theorem tSs_of {X : Cx} {st : List Stmt} {t : TS} (h : PSs X st t) {D : Ends} {σ : L2.St} {H : Hp} (q : t D σ H) : tSs X st D σ H := fun pins s I => h.run pins s σ H D I q
theorem tI_of {X : Cx} {tg iter : Expr} {t : TI} (h : PI X tg iter t) {σ : L2.St} {H : Hp} {R : It → Hp → Prop} (q : t σ H R) : tI X tg iter σ H R := fun pins s I => h.run pins s σ H R I q

/-- a result: new things are nobody else's -/
def ResO (K : PySem.W.Frag) (H : Hp) (G : Addr → Prop) (o : O) (Q : VK) : Prop := ∀ v H' fp, Same H H' → (∀ b, H b = none → H' b = none ∨ b ∈ fp ∨ (∃ xs, H' b = some (.tup xs))) → Ow K H' G o v fp → (∀ b ∈ fp, H b = none) → Q v H'
section
variable {K : PySem.W.Frag} {H : Hp} {G : Addr → Prop}
theorem same_sub {H H' : Hp} (s : Same H H') : Sub K (HG H G) (HG H' G) where
  l := fun a xs h => by
    rcases h with (h | ⟨o, h⟩) | h
    · obtain ⟨h, g⟩ := HG_lst.mp h
      exact .inl (.inl (HG_lst.mpr ⟨s a _ h, g⟩))
    · exact .inl (.inr ⟨o, HG_frz.mpr (s _ _ (HG_frz.mp h))⟩)
    · exact .inr h
  t := fun a xs h => by
    rcases h with (h | ⟨o, h⟩) | h
    · exact .inl (.inl (HG_tup.mpr (s _ _ (HG_tup.mp h))))
    · exact .inl (.inr ⟨o, HG_frz.mpr (s _ _ (HG_frz.mp h))⟩)
    · exact .inr h
theorem same_upd {H : Hp} {p : Addr} {o : HO} (h : H p = none) : Same H (upd H p o) := fun b u e => by rw [upd_ne (ne_of_none e h)]; exact e
theorem rint {v : V} {i : Int} (h : Rp K H G v (.int i)) : v = .int i := by cases h; rfl
theorem rbool {v : V} {i : Bool} (h : Rp K H G v (.bool i)) : v = .bl i := by cases h; rfl
theorem rstr {v : V} {i : Str} (h : Rp K H G v (.str i)) : v = .str i := by cases h; rfl
theorem rnon {v : V} (h : Rp K H G v .none) : v = .non := by cases h; rfl
theorem rtup {v : V} {ds : List D} (h : Rp K H G v (.tuple ds)) : ∃ a xs, v = .ref a ∧ SqT K H a xs ∧ RpA K H G xs ds := by
  cases h with
  | tup h1 h2 => exact ⟨_, _, rfl, (sub_forget K H G).t _ _ h1, h2⟩
theorem tup_r {a : Addr} {xs : List V} {ds : List D} (h : SqT K H a xs) (r : RpA K H G xs ds) : Rp K H G (.ref a) (.tuple ds) := by
  refine .tup ?_ r
  rcases h with (h | ⟨o, h⟩) | h
  · exact .inl (.inl (HG_tup.mpr h))
  · exact .inl (.inr ⟨o, HG_frz.mpr h⟩)
  · exact .inr h
theorem ResO.here {o : O} {Q : VK} {v : V} (h : ResO K H G o Q) (r : Ow K H G o v []) : Q v H := h v H [] (fun _ _ e => e) (fun b e => .inl e) r (fun b hb => by cases hb)
theorem ResO.int {i : Int} {Q : VK} (h : ResO K H G (.fz (.int i)) Q) : Q (.int i) H := h.here ⟨rfl, .int i⟩
theorem ResO.bl {i : Bool} {Q : VK} (h : ResO K H G (.fz (.bool i)) Q) : Q (.bl i) H := h.here ⟨rfl, .bl i⟩
theorem ResO.str {i : Str} {Q : VK} (h : ResO K H G (.fz (.str i)) Q) : Q (.str i) H := h.here ⟨rfl, .str i⟩
theorem ResO.newT {ds : List D} {Q : VK} (h : ResO K H G (.fz (.tuple ds)) Q) {xs : List V} (r : RpA K H G xs ds) {p : Addr} (hp : H p = none) : Q (.ref p) (upd H p (.tup xs)) := by
  have s := same_upd (o := .tup xs) hp
  refine h _ _ [] s (fun b e => ?_) ⟨rfl, tup_r (SqT.of upd_same) (dpAll_mono (same_sub s) _ _ r)⟩ (fun b hb => by cases hb)
  by_cases hb : b = p
  · subst hb; exact .inr (.inr ⟨xs, upd_same⟩)
  · rw [upd_ne hb]; exact .inl e
theorem ResO.sameT {ds : List D} {Q : VK} (h : ResO K H G (.fz (.tuple ds)) Q) {a : Addr} {xs : List V} (hs : SqT K H a xs) (r : RpA K H G xs ds) : Q (.ref a) H := h.here ⟨rfl, tup_r hs r⟩
theorem ResO.newL {ds : List D} {Q : VK} (h : ResO K H G (.lst ds) Q) (hg : ∀ b, G b → ∃ u, H b = some u) {xs : List V} (r : RpA K H G xs ds) {p : Addr} (hp : H p = none) : Q (.ref p) (upd H p (.lst xs)) := by
  have s := same_upd (o := .lst xs) hp
  have ng : ¬ G p := fun g => by obtain ⟨u, e⟩ := hg p g; rw [hp] at e; cases e
  refine h _ _ [p] s (fun b e => ?_) ⟨p, xs, rfl, rfl, ng, upd_same, dpAll_mono (same_sub s) _ _ r⟩ (fun b hb => by
    have e : b = p := by simpa using hb
    rw [e]; exact hp)
  by_cases hb : b = p
  · subst hb; exact .inr (.inl (by simp))
  · rw [upd_ne hb]; exact .inl e
end

/-! ### operators -/
def GHeld (H : Hp) (G : Addr → Prop) : Prop := ∀ b, G b → ∃ u, H b = some u
section
variable {X : Cx}
theorem OpR.imp {f : Value → Value → Sem Value} {r r' : R2} (h : OpR X f r) (i : ∀ x y H Q, r' x y H Q → r x y H Q) : OpR X f r' :=
  fun pins s σ H x y v u Q I rx ry q => h pins s σ H x y v u Q I rx ry (i _ _ _ _ q)
theorem CallR.imp {f : Value} {r r' : List V → Hp → VK → Prop} (h : CallR X f r) (i : ∀ x H Q, r' x H Q → r x H Q) : CallR X f r' :=
  fun pins s σ H x u Q I rx q => h pins s σ H x u Q I rx (i _ _ _ q)
/-- list + list -/
theorem op_catL : OpR X (binaryOp .Add) (fun x y H Q => ∃ l b xs zs, x = .ref l ∧ y = .ref b ∧ SqL X.K H l xs ∧ SqL X.K H b zs ∧ xs.length + zs.length ≤ sizeLine ∧ ∀ p, H p = none → Q (.ref p) (upd H p (.lst (xs ++ zs)))) := by
  intro pins s σ H x y v u Q I rx ry h
  obtain ⟨l, b, xs, zs, rfl, rfl, hH, hB, hz, q⟩ := h
  cases rx
  cases ry
  obtain ⟨its, r, ⟨o, n, e, hc, hd, hdat⟩, hl⟩ := I.list hH
  obtain ⟨its2, r2, ⟨o2, n2, e2, hc2, hd2, hdat2⟩, hl2⟩ := I.list hB
  obtain ⟨cls, dd, data, sl⟩ := o
  obtain ⟨cls2, dd2, data2, sl2⟩ := o2
  simp only at hc hd hdat hc2 hd2 hdat2
  subst hc hd hdat hc2 hd2 hdat2
  have h1 := r.length
  have h2 := r2.length
  have ea : its.toArray ++ its2.toArray = (its ++ its2).toArray := by simp
  refine concat_meets ⟨_, e, rfl⟩ ⟨_, e2, rfl⟩ noFill_list_add seq_list_add PySem.F.slot_list_add PySem.F.entry_list_add (PySem.F.args_list_add_2 _ _) (list_addW l b its.toArray its2.toArray n n2 none none sl sl2 (by simp; omega)) ⟨e, e2, ?_⟩
  rw [ea]
  exact ⟨.ref _, _, I.lnew (t' := s.toks) (r.append r2) (by rw [List.length_append]; omega), rfl, q _ I.fresh⟩
def binOp : BinK → Operator
  | .add => .Add | .sub => .Sub | .mul => .Mult | .fdiv => .FloorDiv | .mod => .Mod | .pow => .Pow
theorem dpAll_rep {K : PySem.W.Frag} {H : Hp} {vs : List V} {ds : List D} (h : DpAll K H vs ds) : ∀ n : Nat, DpAll K H (List.replicate n vs).flatten (repD ds n)
  | 0 => .nil
  | n + 1 => by
    unfold repD
    rw [List.replicate_succ, List.replicate_succ, List.flatten_cons, List.flatten_cons]
    exact dpAll_append h (dpAll_rep h n)
theorem bin_ok (k : BinK) {x y : V} {dx dy : D} {o : O} {H : Hp} {G : Addr → Prop} {Q : VK} (hg : GHeld H G) (hx : RpS X.K H G x dx) (hy : RpS X.K H G y dy) (e : binO k dx dy = some o) (hq : ResO X.K H G o Q) :
    ∃ r, OpR X (binaryOp (binOp k)) r ∧ r x y H Q := by
  cases k
  case add =>
    cases dx <;> cases dy <;> try cases e
    · have h1 := rint hx; have h2 := rint hy; subst h1 h2
      exact ⟨_, op_add, _, _, rfl, rfl, hq.int⟩
    · rename_i a b
      have h1 := rstr hx; have h2 := rstr hy; subst h1 h2
      simp only [binO] at e
      split at e
      · rename_i hl
        cases e
        exact ⟨_, op_add_str, _, _, rfl, rfl, by rw [← lim_eq]; exact hl, hq.str⟩
      · cases e
    · rename_i a b
      simp only [binO] at e
      split at e
      · rename_i hl
        cases e
        obtain ⟨p, xs, rfl, s1, r1⟩ := hx
        obtain ⟨p', ys, rfl, s2, r2⟩ := hy
        have l1 := dpAll_length r1
        have l2 := dpAll_length r2
        refine ⟨_, op_catL, _, _, _, _, rfl, rfl, s1, s2, by rw [l1, l2, ← lim_eq]; exact hl, fun q hn => hq.newL hg (dpAll_append r1 r2) hn⟩
      · cases e
    · rename_i a b
      simp only [binO] at e
      split at e
      · rename_i hl
        cases e
        obtain ⟨p, xs, rfl, s1, r1⟩ := rtup hx
        obtain ⟨p', ys, rfl, s2, r2⟩ := rtup hy
        have l1 := dpAll_length r1
        have l2 := dpAll_length r2
        refine ⟨_, op_catA, _, _, _, _, rfl, rfl, s1, s2, by rw [l1, l2, ← lim_eq]; exact hl, fun z => ?_, fun _ z => ?_, fun _ _ q hn => hq.newT (dpAll_append r1 r2) hn⟩
        · subst z
          cases r1
          exact hq.sameT s2 r2
        · subst z
          cases r2
          rw [List.append_nil] at hq
          exact hq.sameT s1 r1
      · cases e
  case sub =>
    cases dx <;> cases dy <;> try cases e
    have h1 := rint hx; have h2 := rint hy; subst h1 h2
    exact ⟨_, op_sub, _, _, rfl, rfl, hq.int⟩
  case mul =>
    cases dx <;> cases dy <;> try cases e
    · rename_i a b
      have h1 := rint hx; have h2 := rint hy; subst h1 h2
      simp only [binO] at e
      split at e
      · rename_i hl
        cases e
        refine ⟨_, op_mul, _, _, rfl, rfl, ?_, hq.int⟩
        rw [smallI_def, smallI_def] at hl
        simp only [Bool.or_eq_true, Bool.and_eq_true, decide_eq_true_eq] at hl
        exact hl
      · cases e
    · rename_i ds n
      simp only [binO] at e
      split at e
      · rename_i hl
        cases e
        obtain ⟨l1, l2, l3⟩ := replOk_iff.mp hl
        have h2 := rint hy; subst h2
        obtain ⟨p, xs, rfl, s1, r1⟩ := hx
        have hz := dpAll_length r1
        exact ⟨_, op_repL, p, n, xs, rfl, rfl, s1, l2, l3, by omega, fun q hn => hq.newL hg (dpAll_rep r1 _) hn⟩
      · cases e
    · rename_i ds n
      simp only [binO] at e
      split at e
      · rename_i hl
        cases e
        obtain ⟨l1, l2, l3, l4⟩ := repOk_iff.mp hl
        have h2 := rint hy; subst h2
        obtain ⟨p, xs, rfl, s1, r1⟩ := rtup hx
        have hz := dpAll_length r1
        exact ⟨_, op_repT, p, n, xs, rfl, rfl, s1, by rintro rfl; simp at hz; omega, l3, l4, by omega, fun q hn => hq.newT (dpAll_rep r1 _) hn⟩
      · split at e
        · rename_i h1
          cases e
          have h2 := rint hy; subst h2 h1
          obtain ⟨p, xs, rfl, s1, r1⟩ := rtup hx
          exact ⟨_, op_repT1, p, 1, xs, rfl, rfl, s1, .inr rfl, by omega, by omega, hq.sameT s1 r1⟩
        · split at e
          · rename_i h0
            cases e
            have h2 := rint hy; subst h2 h0
            obtain ⟨p, xs, rfl, s1, r1⟩ := rtup hx
            by_cases hn : xs = []
            · subst hn
              have hd : ds = [] := List.eq_nil_of_length_eq_zero (by have := dpAll_length r1; simpa using this.symm)
              subst hd
              exact ⟨_, op_repT1, p, 0, [], rfl, rfl, s1, .inl rfl, by omega, by omega, hq.sameT s1 r1⟩
            · exact ⟨_, op_repT0, p, xs, rfl, rfl, s1, hn, fun q hn => hq.newT .nil hn⟩
          · cases e
  case fdiv =>
    cases dx <;> cases dy <;> try cases e
    rename_i a b
    have h1 := rint hx; have h2 := rint hy; subst h1 h2
    simp only [binO] at e
    split at e
    · rename_i hl
      cases e
      exact ⟨_, op_fdiv, _, _, rfl, rfl, divOk_iff.mp hl, hq.int⟩
    · cases e
  case mod =>
    cases dx <;> cases dy <;> try cases e
    rename_i a b
    have h1 := rint hx; have h2 := rint hy; subst h1 h2
    simp only [binO] at e
    split at e
    · rename_i hl
      cases e
      exact ⟨_, op_mod, _, _, rfl, rfl, hl, hq.int⟩
    · cases e
  case pow =>
    cases dx <;> cases dy <;> try cases e
    rename_i a b
    have h1 := rint hx; have h2 := rint hy; subst h1 h2
    simp only [binO] at e
    split at e
    · rename_i hl
      cases e
      exact ⟨_, op_pow, _, _, rfl, rfl, powOk_iff.mp hl, hq.int⟩
    · cases e
def cmpOp : CmpK → CmpOp
  | .eq => .Eq | .ne => .NotEq | .lt => .Lt | .le => .LtE | .gt => .Gt | .ge => .GtE | .isin => .In | .notin => .NotIn | .is => .Is | .isnt => .IsNot
theorem eqD_some {a b : D} {c : Bool} (e : eqD a b = some c) : SeqAt.shaped a = true ∧ SeqAt.shaped b = true ∧ c = PyData.eqv a b := by
  unfold eqD at e
  split at e
  · rename_i h
    simp only [Bool.and_eq_true] at h
    cases e
    exact ⟨h.1, h.2, rfl⟩
  · cases e
theorem hasO_some {a b : D} {r : Bool} (e : hasO a b = some r) : ∃ ds, rowOf b = some ds ∧ SeqAt.shaped a = true ∧ SeqAt.shaped b = true ∧ r = ds.any fun z => PyData.eqv z a := by
  unfold hasO at e
  split at e
  · rename_i ds hd
    split at e
    · rename_i h
      simp only [Bool.and_eq_true] at h
      cases e
      exact ⟨ds, hd, h.1, h.2, rfl⟩
    · cases e
  · cases e
theorem cmp_ok (hu : X.A.units + 65 < cLine) (k : CmpK) {x y : V} {dx dy : D} {c : Bool} {H : Hp} {G : Addr → Prop} {Q : VK} (hx : RpS X.K H G x dx) (hy : RpS X.K H G y dy) (e : cmpO k dx dy = some c) (hq : Q (.bl c) H) :
    ∃ r, OpR X (compareOp (cmpOp k)) r ∧ r x y H Q := by
  cases k
  case eq =>
    rcases Classical.em (∃ a b, dx = .str a ∧ dy = .str b) with ⟨a, b, rfl, rfl⟩ | hno
    · have h1 := rstr hx; have h2 := rstr hy; subst h1 h2
      cases e
      refine ⟨_, op_eq, rfl, ?_⟩
      rw [show decide (V.str a = V.str b) = decide (a = b) from decide_eq_decide.mpr ⟨fun h => V.str.inj h, fun h => by rw [h]⟩]
      exact hq
    have e' : eqD dx dy = some c := by cases dx <;> cases dy <;> first | exact e | exact absurd ⟨_, _, rfl, rfl⟩ hno
    obtain ⟨s1, s2, rfl⟩ := eqD_some e'
    exact ⟨_, op_eqD (by omega), dx, dy, hx.dp, hy.dp, s1, s2, hq⟩
  case ne =>
    rcases Classical.em (∃ a b, dx = .str a ∧ dy = .str b) with ⟨a, b, rfl, rfl⟩ | hno
    · have h1 := rstr hx; have h2 := rstr hy; subst h1 h2
      cases e
      refine ⟨_, op_ne, rfl, ?_⟩
      rw [show decide (V.str a = V.str b) = decide (a = b) from decide_eq_decide.mpr ⟨fun h => V.str.inj h, fun h => by rw [h]⟩]
      exact hq
    have e' : (eqD dx dy).map (!·) = some c := by cases dx <;> cases dy <;> first | exact e | exact absurd ⟨_, _, rfl, rfl⟩ hno
    cases q : eqD dx dy with
    | none => rw [q] at e'; cases e'
    | some c' =>
      rw [q] at e'
      cases e'
      obtain ⟨s1, s2, rfl⟩ := eqD_some q
      exact ⟨_, op_neD (by omega), dx, dy, hx.dp, hy.dp, s1, s2, hq⟩
  case lt =>
    cases dx <;> cases dy <;> try cases e
    have h1 := rint hx; have h2 := rint hy; subst h1 h2
    exact ⟨_, op_lt, _, _, rfl, rfl, hq⟩
  case le =>
    cases dx <;> cases dy <;> try cases e
    have h1 := rint hx; have h2 := rint hy; subst h1 h2
    exact ⟨_, op_le, _, _, rfl, rfl, hq⟩
  case gt =>
    cases dx <;> cases dy <;> try cases e
    have h1 := rint hx; have h2 := rint hy; subst h1 h2
    exact ⟨_, op_gt, _, _, rfl, rfl, hq⟩
  case ge =>
    cases dx <;> cases dy <;> try cases e
    have h1 := rint hx; have h2 := rint hy; subst h1 h2
    exact ⟨_, op_ge, _, _, rfl, rfl, hq⟩
  case isin =>
    have e' : hasO dx dy = some c := by cases dx <;> cases dy <;> exact e
    obtain ⟨ds, h1, s1, s2, rfl⟩ := hasO_some e'
    cases dy <;> try cases h1
    · exact ⟨_, op_inD hu, dx, _, hx.dp, hy.dp, s1, s2, hq⟩
    · exact ⟨_, op_inT hu, dx, _, hx.dp, hy.dp, s1, s2, hq⟩
  case notin =>
    have e' : (hasO dx dy).map (!·) = some c := by cases dx <;> cases dy <;> exact e
    cases q : hasO dx dy with
    | none => rw [q] at e'; cases e'
    | some b =>
      rw [q] at e'
      cases e'
      obtain ⟨ds, h1, s1, s2, rfl⟩ := hasO_some q
      cases dy <;> try cases h1
      · exact ⟨_, op_notInD hu, dx, _, hx.dp, hy.dp, s1, s2, hq⟩
      · exact ⟨_, op_notInT hu, dx, _, hx.dp, hy.dp, s1, s2, hq⟩
  case is =>
    cases dx <;> cases dy <;> try cases e
    have h1 := rbool hx; have h2 := rbool hy; subst h1 h2
    exact ⟨_, op_isBl, _, _, rfl, rfl, hq⟩
  case isnt =>
    cases dx <;> cases dy <;> try cases e
    have h1 := rbool hx; have h2 := rbool hy; subst h1 h2
    exact ⟨_, op_notBl, _, _, rfl, rfl, hq⟩
end
end NW
end
section
set_option linter.all false
set_option maxRecDepth 100000
set_option maxHeartbeats 1000000
/-! NWd: items, slices, truth, built-in calls -/
namespace NW
open PySem L2 PyProof.Rows
theorem rp_row {K : PySem.W.Frag} {H : Hp} {G : Addr → Prop} {v : V} {d : D} {ds : List D} (h : RpS K H G v d) (e : rowOf d = some ds) : ∃ a xs, v = .ref a ∧ (SqL K H a xs ∨ SqT K H a xs) ∧ RpA K H G xs ds := by
  cases d <;> try cases e
  · obtain ⟨a, xs, rfl, s, r⟩ := h
    exact ⟨a, xs, rfl, .inl s, r⟩
  · obtain ⟨a, xs, rfl, s, r⟩ := rtup h
    exact ⟨a, xs, rfl, .inr s, r⟩
theorem atI_rp {K : PySem.W.Frag} {H : Hp} {xs : List V} {ds : List D} {i : Int} {d : D} (r : DpAll K H xs ds) (e : atI ds i = some d) : ∃ v, atI xs i = some v ∧ Dp K H v d := by
  unfold atI at e ⊢
  rw [dpAll_length r]
  cases q : ixN ds.length i with
  | none => rw [q] at e; cases e
  | some j =>
    rw [q] at e
    exact dpAll_get r e
section
variable {X : Cx}
theorem ix_ok {x y : V} {dx dy d : D} {H : Hp} {G : Addr → Prop} {Q : VK} (hx : RpS X.K H G x dx) (hy : RpS X.K H G y dy) (e : ixD dx dy = some d) (hq : ∀ v, Rp X.K H G v d → Q v H) :
    ∃ r, IxR X r ∧ r x y H Q := by
  cases dx <;> cases dy <;> try cases e
  · obtain ⟨a, xs, rfl, s, r⟩ := hx
    have h2 := rint hy; subst h2
    obtain ⟨v, e1, e2⟩ := atI_rp r e
    exact ⟨_, ix_list, a, xs, _, v, rfl, rfl, s, e1, hq v e2⟩
  · obtain ⟨a, xs, rfl, s, r⟩ := rtup hx
    have h2 := rint hy; subst h2
    obtain ⟨v, e1, e2⟩ := atI_rp r e
    exact ⟨_, ix_tup, a, xs, _, v, rfl, rfl, s, e1, hq v e2⟩
theorem sIx_le (n d : Nat) (h : d ≤ n) (o : Option Int) : HT.sIx n d o ≤ n := HT.sIx_le n d h o
theorem sl_ok {x : V} {dx : D} {lo hi : Option Int} {o : O} {H : Hp} {G : Addr → Prop} {Q : VK} (hg : GHeld H G) (hx : RpS X.K H G x dx) (e : slO dx lo hi = some o) (hq : ResO X.K H G o Q) :
    ∃ r, SlR X r ∧ r x lo hi H Q := by
  cases dx <;> try cases e
  · obtain ⟨a, xs, rfl, s, r⟩ := hx
    exact ⟨_, sl_list, a, xs, rfl, s, fun p hp => hq.newL hg (dpAll_cut lo hi r) hp⟩
  · obtain ⟨a, xs, rfl, s, r⟩ := rtup hx
    refine ⟨_, sl_tupA, a, xs, rfl, s, fun z => ?_, fun _ p hp => hq.newT (dpAll_cut lo hi r) hp⟩
    rename_i ds
    have hl := dpAll_length r
    have e : cutD ds lo hi = ds := by
      unfold cutD
      rw [← hl, z.1, z.2]
      simp [hl]
    rw [e] at hq
    exact hq.sameT s r
/-- truth -/
theorem tru_D {K : PySem.W.Frag} {x : V} {d : D} {c : Bool} {H : Hp} {G : Addr → Prop} (hx : RpS K H G x d) (e : truthD d = some c) : TruV K x H c := by
  cases d <;> try cases e
  · have := rnon hx; subst this; exact rfl
  · have := rbool hx; subst this; exact rfl
  · have := rint hx; subst this; exact rfl
  · obtain ⟨a, xs, rfl, s, r⟩ := hx
    refine .inl ⟨xs, s, ?_⟩
    have hl := dpAll_length r
    rename_i ds
    cases xs <;> cases ds <;> first | rfl | cases hl
  · obtain ⟨a, xs, rfl, s, r⟩ := rtup hx
    refine .inr (.inl ⟨xs, s, ?_⟩)
    have hl := dpAll_length r
    rename_i ds
    cases xs <;> cases ds <;> first | rfl | cases hl

/-! ### built-ins -/
inductive RpSs (K : PySem.W.Frag) (H : Hp) (G : Addr → Prop) : List V → List D → Prop
  | nil : RpSs K H G [] []
  | cons {v : V} {vs : List V} {d : D} {ds : List D} : RpS K H G v d → RpSs K H G vs ds → RpSs K H G (v :: vs) (d :: ds)
theorem rpSs1 {K : PySem.W.Frag} {H : Hp} {G : Addr → Prop} {vs : List V} {d : D} (h : RpSs K H G vs [d]) : ∃ v, vs = [v] ∧ RpS K H G v d := by
  cases h with
  | cons h1 h2 => cases h2; exact ⟨_, rfl, h1⟩
theorem rpSs2 {K : PySem.W.Frag} {H : Hp} {G : Addr → Prop} {vs : List V} {d e : D} (h : RpSs K H G vs [d, e]) : ∃ v u, vs = [v, u] ∧ RpS K H G v d ∧ RpS K H G u e := by
  cases h with
  | cons h1 h2 =>
    obtain ⟨u, rfl, h3⟩ := rpSs1 h2
    exact ⟨_, _, rfl, h1, h3⟩
theorem ints_rp {K : PySem.W.Frag} {H : Hp} : ∀ {xs : List V} {ds : List D} {ns : List Int}, DpAll K H xs ds → intsOf ds = some ns → xs = ns.map V.int
  | [], [], ns, _, e => by cases e; rfl
  | x :: xs, d :: ds, ns, .cons h1 h2, e => by
    cases d <;> try cases e
    cases h1
    rename_i i
    have e' : (intsOf ds).map (i :: ·) = some ns := e
    cases q : intsOf ds with
    | none => rw [q] at e'; cases e'
    | some ms =>
      rw [q] at e'
      cases e'
      rw [List.map_cons, ints_rp h2 q]
theorem bools_rp {K : PySem.W.Frag} {H : Hp} : ∀ {xs : List V} {ds : List D} {ns : List Bool}, DpAll K H xs ds → boolsOf ds = some ns → xs = ns.map V.bl
  | [], [], ns, _, e => by cases e; rfl
  | x :: xs, d :: ds, ns, .cons h1 h2, e => by
    cases d <;> try cases e
    cases h1
    rename_i i
    have e' : (boolsOf ds).map (i :: ·) = some ns := e
    cases q : boolsOf ds with
    | none => rw [q] at e'; cases e'
    | some ms =>
      rw [q] at e'
      cases e'
      rw [List.map_cons, bools_rp h2 q]
theorem maxI_mem : ∀ ns : List Int, 0 < ns.length → maxI ns ∈ ns ∧ ∀ y ∈ ns, y ≤ maxI ns
  | [x], _ => by simp [maxI]
  | x :: y :: r, _ => by
    obtain ⟨h1, h2⟩ := maxI_mem (y :: r) (by simp)
    have e : maxI (x :: y :: r) = if maxI (y :: r) > x then maxI (y :: r) else x := rfl
    rw [e]
    split
    · exact ⟨List.mem_cons_of_mem _ h1, fun z hz => by
        rcases List.mem_cons.mp hz with rfl | hz
        · omega
        · exact h2 z hz⟩
    · exact ⟨List.mem_cons_self, fun z hz => by
        rcases List.mem_cons.mp hz with rfl | hz
        · omega
        · have := h2 z hz; omega⟩
theorem minI_mem : ∀ ns : List Int, 0 < ns.length → minI ns ∈ ns ∧ ∀ y ∈ ns, minI ns ≤ y
  | [x], _ => by simp [minI]
  | x :: y :: r, _ => by
    obtain ⟨h1, h2⟩ := minI_mem (y :: r) (by simp)
    have e : minI (x :: y :: r) = if minI (y :: r) < x then minI (y :: r) else x := rfl
    rw [e]
    split
    · exact ⟨List.mem_cons_of_mem _ h1, fun z hz => by
        rcases List.mem_cons.mp hz with rfl | hz
        · omega
        · exact h2 z hz⟩
    · exact ⟨List.mem_cons_self, fun z hz => by
        rcases List.mem_cons.mp hz with rfl | hz
        · omega
        · have := h2 z hz; omega⟩
/-- sum(t), t a tuple of ints -/
theorem sum_tupW {prog : Program} {w : World} {A : Around} {E : Value → Shared → Prop} {s : Shared} {l : Addr} {its : List Value} {ns : List Int} {Q : Value → Shared → Prop} (hh : A.handled = none) (hl : s.heap.IsTuple l its.toArray) (hi : IntsAre its ns)
    (h : ∀ h' tk t', (∀ b o, s.heap.get? b = some o → h'.get? b = some o) → Q (.int ns.sum t') { s with heap := h', toks := tk }) : wpAny (model prog w) A (call (.builtin "sum") [.ref l]) Q E s := by
  obtain ⟨xs, e⟩ := hi.allInts.items
  have hn : numsOf (intItems xs).toList = ns := by rw [← e]; exact hi.numsOf
  rw [nums_intItems] at hn
  rw [e] at hl
  have hlt : l < s.heap.objs.size := by obtain ⟨_, e, _⟩ := hl; exact Heap.lt_size e
  refine call_sum_walkG (wpAny_pyIter_tuple hl ?_)
  refine ⟨_, [_, l], [_], _, _, _, numAt xs, rfl, Walks.tuple (A := A.in1) hh _ l (Nat.ne_of_lt hlt) (intItems xs), ⟨⟨_, Heap.get?_push_size _ rfl, rfl, rfl⟩, hl.push _⟩, fun b hb => ?_, fun _ _ => intItems_at, fun h' tk t' hk => ?_⟩
  · show b < (s.heap.push _).objs.size
    rw [Heap.size_push]
    rcases List.mem_cons.mp hb with rfl | hb
    · exact Nat.lt_succ_self _
    · rcases List.mem_cons.mp hb with rfl | hb
      · exact Nat.lt_succ_of_lt hlt
      · cases hb
  · have hold : ∀ c o, s.heap.get? c = some o → h'.get? c = some o := fun c o e => by
      refine hk c o (fun hm => ?_) (Heap.get?_push_of_some _ e)
      rcases List.mem_cons.mp hm with e1 | hm
      · have := Heap.lt_size e; rw [e1] at this; exact Nat.lt_irrefl _ this
      · cases hm
    have := h h' tk t' hold
    have e2 : (intItems xs).size = xs.size := by simp [intItems]
    rw [e2, preSum_eq, List.take_of_length_le (by simp), hn]; exact this
theorem cr_sumT (hc : X.calm = true) : CallR X (.builtin "sum") (fun vs H Q => ∃ (a : Addr) (ns : List Int), vs = [V.ref a] ∧ SqT X.K H a (ns.map V.int) ∧ Q (.int ns.sum) H) := by
  intro pins s σ H vs us Q I r h
  obtain ⟨a, ns, rfl, hs, q⟩ := h
  obtain ⟨its, rv, hl, _⟩ := I.tuple hs
  rw [Vals.ref1 r]
  exact sum_tupW (I.ok.hd hc) (show s.heap.IsTuple a its.toArray from hl) rv.ints fun h' tk t' hk => ⟨.int _, H, I.kept hk, ⟨_, rfl⟩, q⟩
/-- max(t), t a tuple of ints -/
theorem max_tupW {prog : Program} {w : World} {A : Around} {E : Value → Shared → Prop} {s : Shared} {l : Addr} {its : List Value} {ns : List Int} {Q : Value → Shared → Prop} (hh : A.handled = none) (hl : s.heap.IsTuple l its.toArray) (hi : IntsAre its ns) (hne : 0 < ns.length)
    (h : ∀ h' tk m t', (∀ b o, s.heap.get? b = some o → h'.get? b = some o) → m ∈ ns → (∀ y, y ∈ ns → y ≤ m) → Q (.int m t') { s with heap := h', toks := tk }) : wpAny (model prog w) A (call (.builtin "max") [.ref l]) Q E s := by
  obtain ⟨xs, e⟩ := hi.allInts.items
  have hn : numsOf (intItems xs).toList = ns := by rw [← e]; exact hi.numsOf
  rw [nums_intItems] at hn
  subst hn
  rw [e] at hl
  have hsz : 0 < xs.size := by simpa using hne
  have hlt : l < s.heap.objs.size := by obtain ⟨_, e, _⟩ := hl; exact Heap.lt_size e
  refine call_max_walk (wpAny_pyIter_tuple hl ?_)
  refine ⟨_, [_, l], [_], _, _, _, _, rfl, Walks.tuple (A := A.in1) hh _ l (Nat.ne_of_lt hlt) (intItems xs), ⟨⟨_, Heap.get?_push_size _ rfl, rfl, rfl⟩, hl.push _⟩, fun b hb => ?_, by simpa [intItems] using hsz, CmpOf.ints_gt (numAt xs) (fun _ _ => intItems_at), fun v h' tk hP hk => ?_⟩
  · show b < (s.heap.push _).objs.size
    rw [Heap.size_push]
    rcases List.mem_cons.mp hb with rfl | hb
    · exact Nat.lt_succ_self _
    · rcases List.mem_cons.mp hb with rfl | hb
      · exact Nat.lt_succ_of_lt hlt
      · cases hb
  · have hold : ∀ c o, s.heap.get? c = some o → h'.get? c = some o := fun c o e => by
      refine hk c o (fun hm => ?_) (Heap.get?_push_of_some _ e)
      rcases List.mem_cons.mp hm with e1 | hm
      · have := Heap.lt_size e; rw [e1] at this; exact Nat.lt_irrefl _ this
      · cases hm
    have e2 : (intItems xs).size = xs.size := by simp [intItems]
    rw [e2] at hP
    obtain ⟨t, rfl⟩ := intItems_at hP
    obtain ⟨h1, h2⟩ := argBest_gt (numAt xs) (xs.size - 1)
    refine h h' tk _ t hold ?_ fun a ha => ?_
    · rw [numAt_eq]; exact PySem.getD_mem (by rw [List.length_map, Array.length_toList]; omega)
    · obtain ⟨j, hj, rfl⟩ := mem_getD ha
      rw [List.length_map, Array.length_toList] at hj
      rw [← numAt_eq]; exact h2 j (by omega)
theorem cr_maxT (hc : X.calm = true) : CallR X (.builtin "max") (fun vs H Q => ∃ (a : Addr) (ns : List Int), vs = [V.ref a] ∧ SqT X.K H a (ns.map V.int) ∧ 0 < ns.length ∧ ∀ m, m ∈ ns → (∀ y, y ∈ ns → y ≤ m) → Q (.int m) H) := by
  intro pins s σ H vs us Q I r h
  obtain ⟨a, ns, rfl, hs, hne, q⟩ := h
  obtain ⟨its, rv, hl, _⟩ := I.tuple hs
  rw [Vals.ref1 r]
  exact max_tupW (I.ok.hd hc) (show s.heap.IsTuple a its.toArray from hl) rv.ints hne fun h' tk m t' hk h1 h2 => ⟨.int _, H, I.kept hk, ⟨_, rfl⟩, q m h1 h2⟩
/-- min(t), t a tuple of ints -/
theorem min_tupW {prog : Program} {w : World} {A : Around} {E : Value → Shared → Prop} {s : Shared} {l : Addr} {its : List Value} {ns : List Int} {Q : Value → Shared → Prop} (hh : A.handled = none) (hl : s.heap.IsTuple l its.toArray) (hi : IntsAre its ns) (hne : 0 < ns.length)
    (h : ∀ h' tk m t', (∀ b o, s.heap.get? b = some o → h'.get? b = some o) → m ∈ ns → (∀ y, y ∈ ns → m ≤ y) → Q (.int m t') { s with heap := h', toks := tk }) : wpAny (model prog w) A (call (.builtin "min") [.ref l]) Q E s := by
  obtain ⟨xs, e⟩ := hi.allInts.items
  have hn : numsOf (intItems xs).toList = ns := by rw [← e]; exact hi.numsOf
  rw [nums_intItems] at hn
  subst hn
  rw [e] at hl
  have hsz : 0 < xs.size := by simpa using hne
  have hlt : l < s.heap.objs.size := by obtain ⟨_, e, _⟩ := hl; exact Heap.lt_size e
  refine call_min_walk (wpAny_pyIter_tuple hl ?_)
  refine ⟨_, [_, l], [_], _, _, _, _, rfl, Walks.tuple (A := A.in1) hh _ l (Nat.ne_of_lt hlt) (intItems xs), ⟨⟨_, Heap.get?_push_size _ rfl, rfl, rfl⟩, hl.push _⟩, fun b hb => ?_, by simpa [intItems] using hsz, CmpOf.ints_lt (numAt xs) (fun _ _ => intItems_at), fun v h' tk hP hk => ?_⟩
  · show b < (s.heap.push _).objs.size
    rw [Heap.size_push]
    rcases List.mem_cons.mp hb with rfl | hb
    · exact Nat.lt_succ_self _
    · rcases List.mem_cons.mp hb with rfl | hb
      · exact Nat.lt_succ_of_lt hlt
      · cases hb
  · have hold : ∀ c o, s.heap.get? c = some o → h'.get? c = some o := fun c o e => by
      refine hk c o (fun hm => ?_) (Heap.get?_push_of_some _ e)
      rcases List.mem_cons.mp hm with e1 | hm
      · have := Heap.lt_size e; rw [e1] at this; exact Nat.lt_irrefl _ this
      · cases hm
    have e2 : (intItems xs).size = xs.size := by simp [intItems]
    rw [e2] at hP
    obtain ⟨t, rfl⟩ := intItems_at hP
    obtain ⟨h1, h2⟩ := argBest_lt (numAt xs) (xs.size - 1)
    refine h h' tk _ t hold ?_ fun a ha => ?_
    · rw [numAt_eq]; exact PySem.getD_mem (by rw [List.length_map, Array.length_toList]; omega)
    · obtain ⟨j, hj, rfl⟩ := mem_getD ha
      rw [List.length_map, Array.length_toList] at hj
      rw [← numAt_eq]; exact h2 j (by omega)
theorem cr_minT (hc : X.calm = true) : CallR X (.builtin "min") (fun vs H Q => ∃ (a : Addr) (ns : List Int), vs = [V.ref a] ∧ SqT X.K H a (ns.map V.int) ∧ 0 < ns.length ∧ ∀ m, m ∈ ns → (∀ y, y ∈ ns → m ≤ y) → Q (.int m) H) := by
  intro pins s σ H vs us Q I r h
  obtain ⟨a, ns, rfl, hs, hne, q⟩ := h
  obtain ⟨its, rv, hl, _⟩ := I.tuple hs
  rw [Vals.ref1 r]
  exact min_tupW (I.ok.hd hc) (show s.heap.IsTuple a its.toArray from hl) rv.ints hne fun h' tk m t' hk h1 h2 => ⟨.int _, H, I.kept hk, ⟨_, rfl⟩, q m h1 h2⟩
def biName : BI → Str
  | .len => "len" | .int => "int" | .max => "max" | .min => "min" | .sum => "sum" | .all => "all" | .any => "any" | .tuple => "tuple" | .list => "list" | .divmod => "divmod" | .repr => "repr" | .sorted => "sorted"
def biVal : BI → Value
  | .len => .builtin "len" | .int => .type "int" | .max => .builtin "max" | .min => .builtin "min" | .sum => .builtin "sum" | .all => .builtin "all" | .any => .builtin "any" | .tuple => .type "tuple" | .list => .type "list" | .divmod => .builtin "divmod" | .repr => .builtin "repr" | .sorted => .builtin "sorted"
theorem bi_ok (hc : X.calm = true) (hgd : X.A.guards = some []) (hun : X.A.units + 66 < cLine) (b : BI) {vs : List V} {ds : List D} {o : O} {H : Hp} {G : Addr → Prop} {Q : VK} (hg : GHeld H G) (hx : RpSs X.K H G vs ds) (e : biO b ds = some o) (hq : ResO X.K H G o Q) :
    ∃ r, CallR X (biVal b) r ∧ r vs H Q := by
  unfold biO at e
  split at e
  · cases e
    obtain ⟨v, rfl, h1⟩ := rpSs1 hx
    obtain ⟨a, xs, rfl, s, r⟩ := rtup h1
    refine ⟨_, call_len_seq, a, xs, rfl, .inr s, ?_⟩
    rw [dpAll_length r]; exact hq.int
  · cases e
    obtain ⟨v, rfl, h1⟩ := rpSs1 hx
    obtain ⟨a, xs, rfl, s, r⟩ := h1
    refine ⟨_, call_len_seq, a, xs, rfl, .inl s, ?_⟩
    rw [dpAll_length r]; exact hq.int
  · cases e
    obtain ⟨v, rfl, h1⟩ := rpSs1 hx
    have := rint h1; subst this
    exact ⟨_, call_int1, .inl ⟨_, rfl, hq.int⟩⟩
  · cases e
    obtain ⟨v, rfl, h1⟩ := rpSs1 hx
    have := rbool h1; subst this
    exact ⟨_, call_int1, .inr ⟨_, rfl, hq.int⟩⟩
  · cases e
    obtain ⟨v, u, rfl, h1, h2⟩ := rpSs2 hx
    have := rint h1; have := rint h2; subst v u
    exact ⟨_, call_max2 hc, _, _, rfl, hq.int⟩
  · cases e
    obtain ⟨v, u, rfl, h1, h2⟩ := rpSs2 hx
    have := rint h1; have := rint h2; subst v u
    exact ⟨_, call_min2 hc, _, _, rfl, hq.int⟩
  · split at e
    · rename_i ns hns
      split at e
      · rename_i hp
        cases e
        obtain ⟨v, rfl, h1⟩ := rpSs1 hx
        obtain ⟨a, xs, rfl, s, r⟩ := h1
        have := ints_rp r hns; subst this
        refine ⟨_, cr_max hc, a, ns, rfl, s, hp, fun m h1 h2 => ?_⟩
        obtain ⟨q1, q2⟩ := maxI_mem ns hp
        have : m = maxI ns := by have := h2 _ q1; have := q2 _ h1; omega
        rw [this]; exact hq.int
      · cases e
    · cases e
  · split at e
    · rename_i ns hns
      split at e
      · rename_i hp
        cases e
        obtain ⟨v, rfl, h1⟩ := rpSs1 hx
        obtain ⟨a, xs, rfl, s, r⟩ := h1
        have := ints_rp r hns; subst this
        refine ⟨_, cr_min hc, a, ns, rfl, s, hp, fun m h1 h2 => ?_⟩
        obtain ⟨q1, q2⟩ := minI_mem ns hp
        have : m = minI ns := by have := h2 _ q1; have := q2 _ h1; omega
        rw [this]; exact hq.int
      · cases e
    · cases e
  · split at e
    · rename_i ns hns
      split at e
      · rename_i hp
        cases e
        obtain ⟨v, rfl, h1⟩ := rpSs1 hx
        obtain ⟨a, xs, rfl, s, r⟩ := rtup h1
        have := ints_rp r hns; subst this
        refine ⟨_, cr_maxT hc, a, ns, rfl, s, hp, fun m h1 h2 => ?_⟩
        obtain ⟨q1, q2⟩ := maxI_mem ns hp
        have : m = maxI ns := by have := h2 _ q1; have := q2 _ h1; omega
        rw [this]; exact hq.int
      · cases e
    · cases e
  · split at e
    · rename_i ns hns
      split at e
      · rename_i hp
        cases e
        obtain ⟨v, rfl, h1⟩ := rpSs1 hx
        obtain ⟨a, xs, rfl, s, r⟩ := rtup h1
        have := ints_rp r hns; subst this
        refine ⟨_, cr_minT hc, a, ns, rfl, s, hp, fun m h1 h2 => ?_⟩
        obtain ⟨q1, q2⟩ := minI_mem ns hp
        have : m = minI ns := by have := h2 _ q1; have := q2 _ h1; omega
        rw [this]; exact hq.int
      · cases e
    · cases e
  · split at e
    · rename_i ns hns
      cases e
      obtain ⟨v, rfl, h1⟩ := rpSs1 hx
      obtain ⟨a, xs, rfl, s, r⟩ := h1
      have := ints_rp r hns; subst this
      exact ⟨_, cr_sum hc, a, ns, rfl, s, hq.int⟩
    · cases e
  · split at e
    · rename_i ns hns
      cases e
      obtain ⟨v, rfl, h1⟩ := rpSs1 hx
      obtain ⟨a, xs, rfl, s, r⟩ := rtup h1
      have := ints_rp r hns; subst this
      exact ⟨_, cr_sumT hc, a, ns, rfl, s, hq.int⟩
    · cases e
  · split at e
    · rename_i ns hns
      cases e
      obtain ⟨v, rfl, h1⟩ := rpSs1 hx
      obtain ⟨a, xs, rfl, s, r⟩ := h1
      have := bools_rp r hns; subst this
      exact ⟨_, cr_all hc, a, ns, rfl, s, hq.bl⟩
    · cases e
  · split at e
    · rename_i ns hns
      cases e
      obtain ⟨v, rfl, h1⟩ := rpSs1 hx
      obtain ⟨a, xs, rfl, s, r⟩ := h1
      have := bools_rp r hns; subst this
      exact ⟨_, cr_any hc, a, ns, rfl, s, hq.bl⟩
    · cases e
  · cases e
    obtain ⟨v, rfl, h1⟩ := rpSs1 hx
    obtain ⟨a, xs, rfl, s, r⟩ := h1
    exact ⟨_, call_tuple_of, a, xs, rfl, .inl ⟨s, fun l hl => hq.newT r hl⟩⟩
  · cases e
    obtain ⟨v, rfl, h1⟩ := rpSs1 hx
    obtain ⟨a, xs, rfl, s, r⟩ := rtup h1
    exact ⟨_, call_tuple_of, a, xs, rfl, .inr ⟨s, hq.sameT s r⟩⟩
  · cases e
    obtain ⟨v, rfl, h1⟩ := rpSs1 hx
    obtain ⟨a, xs, rfl, s, r⟩ := h1
    exact ⟨_, call_list_of, a, xs, rfl, .inl s, fun l hl => hq.newL hg r hl⟩
  · cases e
    obtain ⟨v, rfl, h1⟩ := rpSs1 hx
    obtain ⟨a, xs, rfl, s, r⟩ := rtup h1
    exact ⟨_, call_list_of, a, xs, rfl, .inr s, fun l hl => hq.newL hg r hl⟩
  · split at e
    · rename_i hj
      cases e
      obtain ⟨v, rfl, h1⟩ := rpSs1 hx
      obtain ⟨z1, z2, z3, z4⟩ := reprOk_iff.mp hj
      refine ⟨_, cr_repr hgd hun, v, _, rfl, h1.dp, z1, z2, z3, by rw [← lim_eq]; exact z4, ?_⟩
      rw [shownS_def] at hq
      exact hq.str
    · cases e
  · split at e
    · rename_i hj
      cases e
      obtain ⟨v, u, rfl, h1, h2⟩ := rpSs2 hx
      have := rint h1; have := rint h2; subst v u
      exact ⟨_, call_divmod, _, _, rfl, divOk_iff.mp hj, fun p hp => hq.newT (.cons (.int _) (.cons (.int _) .nil)) hp⟩
    · cases e
  · split at e
    · rename_i hj
      cases e
      obtain ⟨v, rfl, h1⟩ := rpSs1 hx
      obtain ⟨a, xs, rfl, s, r⟩ := h1
      obtain ⟨z1, z2, z3⟩ := sortOk_iff.mp hj
      refine ⟨_, cr_sortD hun, a, xs, _, rfl, s, dpAll_mono (sub_forget _ _ _) _ _ r, z1, z2, z3, fun ys p hy hp => ?_⟩
      rw [sortD_def] at hq
      exact hq.newL hg (hy _ r) hp
    · cases e
  · cases e
def tyName : TyK → String
  | .int => "int" | .bool => "bool" | .str => "str" | .tuple => "tuple" | .list => "list" | .dict => "dict"
theorem findIdx_first {α : Type} {p : α → Bool} : ∀ {l : List α} {j : Nat}, l.findIdx? p = some j → ∃ z, l[j]? = some z ∧ p z = true ∧ ∀ m z', m < j → l[m]? = some z' → p z' = false
  | [], j, h => by simp at h
  | x :: l, j, h => by
    rw [List.findIdx?_cons] at h
    cases q : p x with
    | true =>
      rw [q, if_pos rfl] at h
      cases h
      exact ⟨x, rfl, q, fun m z' hm => absurd hm (Nat.not_lt_zero m)⟩
    | false =>
      rw [q, if_neg Bool.false_ne_true] at h
      cases r : l.findIdx? p with
      | none => rw [r] at h; cases h
      | some i =>
        rw [r] at h
        cases h
        obtain ⟨z, h1, h2, h3⟩ := findIdx_first r
        refine ⟨z, h1, h2, fun m z' hm hz => ?_⟩
        cases m with
        | zero =>
          cases hz
          exact q
        | succ m => exact h3 m z' (Nat.lt_of_succ_lt_succ hm) hz
theorem mtAny {X : Cx} {id : String} : MtR X id (fun x xs H Q => ∃ r, MtR X id r ∧ r x xs H Q) := fun pins s σ H x xs v us Q I rx rxs ⟨r, hr, q⟩ => hr pins s σ H x xs v us Q I rx rxs q
theorem idx_ok (hu : X.A.units + 65 < cLine) {x y : V} {ds : List D} {dy : D} {j : Nat} {H : Hp} {G : Addr → Prop} {Q : VK} (hx : RpS X.K H G x (.list ds)) (hy : RpS X.K H G y dy) (e : idxD ds dy = some j) (hq : Q (.int (j : Nat)) H) :
    ∃ r, MtR X "list.index" r ∧ r x [y] H Q := by
  unfold idxD at e
  split at e
  · rename_i h
    simp only [Bool.and_eq_true] at h
    obtain ⟨z, h1, h2, h3⟩ := findIdx_first e
    have hd := hx.dp
    cases hd with
    | lst a b => exact ⟨_, mt_indexD hu, _, y, dy, ds, j, z, rfl, rfl, .lst a b, hy.dp, h.1, h.2, h1, h2, h3, hq⟩
  · cases e
theorem isi_ok (T : TyK) {d : D} {x : V} {H : Hp} {G : Addr → Prop} {Q : VK} (hx : RpS X.K H G x d) (hq : Q (.bl (isiD T d)) H) :
    ∃ r, CallR X (.builtin "isinstance") r ∧ r [x, .ty (tyName T)] H Q := by
  refine ⟨fun vs H Q => ∃ (x : V) (d : D), vs = [x, .ty (tyName T)] ∧ Dp X.K H x d ∧ Q (.bl (isiD T d)) H, ?_, x, d, rfl, hx.dp, hq⟩
  intro pins s σ H vs us Q I r h
  obtain ⟨x, d, rfl, hd, q⟩ := h
  obtain ⟨u, w', rfl, r1, r2⟩ := vals2 r
  obtain ⟨as, rd⟩ := Dp.reads I d x u hd r1
  have fin : ∀ {b : Bool}, b = isiD T d → ∀ tk, s.toks ≤ tk → EP X pins σ Q (.bool b) { s with toks := tk } := fun e tk _ => ⟨.bl _, H, I.tok _, rfl, by rw [e]; exact q⟩
  cases T <;> cases r2
  · exact PySem.W.isinstance_int_data rd (fin (by cases d <;> rfl))
  · exact PySem.W.isinstance_bool_data rd (fin (by cases d <;> rfl))
  · exact PySem.W.isinstance_str_data rd (fin (by cases d <;> rfl))
  · exact PySem.W.isinstance_tuple_data rd (fin (by cases d <;> rfl))
  · exact PySem.W.isinstance_list_data rd (fin (by cases d <;> rfl))
  · exact PySem.W.isinstance_dict_data rd (fin (by cases d <;> rfl))
end
end NW
end
section
set_option linter.all false
set_option maxRecDepth 100000
set_option maxHeartbeats 1000000
/-! NWe: contexts, goals, what evaluation leaves -/
namespace NW
open PySem L2 PyProof.Rows
/-- what is fixed through a law: the written part, the module's names, what the defs mean, how an exception of data stands in the heap -/
structure Ct where
  K : PySem.W.Frag
  mg : Str → Option Value
  Γ : Gam
/-- an exception of one field, as it stands in the heap -/
def Ct.xr (c : Ct) (x : Exn) (cls : Value) (dd : Option Addr) (H : Hp) : Prop := ∃ (C : Addr) (f : Str) (d : D) (v : V) (a : Addr), c.mg x.cls = some (.ref C) ∧ cls = .ref C ∧ x.flds = [(f, d)] ∧ (∀ H G, Rp c.K H G v d) ∧ dd = some a ∧ H a = some (.xd [(f, v)])
def ExcAt (c : Ct) (X : Cx) (x f : Str) : Prop := ∃ (C : Addr) (k : Nat), ExcF X.prog X.w X.K X.mg X.base k x f C ∧ Room (k + 1) X.A
def F0 : Addr → Prop := fun _ => False
/-- promises -/
def spPure (c : Ct) (n : Nat) (m : List D → Option (Except Exn D)) : Sp := fun vs H Q E => ∃ (G : Addr → Prop) (ds : List D) (r : Except Exn D), GHeld H G ∧ RpA c.K H G vs ds ∧ ds.length = n ∧ m ds = some r ∧ match r with
  | .ok d => ∀ v H' G', Step H G F0 H' G' F0 → GHeld H' G' → Rp c.K H' G' v d → Q v H'
  | .error x => ∀ cls dd H' G', Step H G F0 H' G' F0 → GHeld H' G' → c.xr x cls dd H' → E cls dd H'
def spMk (c : Ct) (n : Nat) (m : List D → Option O) : Sp := fun vs H Q E => ∃ (G : Addr → Prop) (ds : List D) (o : O), GHeld H G ∧ RpA c.K H G vs ds ∧ ds.length = n ∧ m ds = some o ∧
  ∀ v H' G' fp, Step H G F0 H' G' F0 → GHeld H' G' → Ow c.K H' G' o v fp → (∀ b ∈ fp, H b = none) → Q v H'
def spIo (c : Ct) (n : Nat) (m : O → List D → Option (Except Exn D × O)) : Sp := fun vs H Q E => ∃ (G : Addr → Prop) (o o' : O) (v0 : V) (ws : List V) (fp : List Addr) (ds : List D) (r : Except Exn D), GHeld H G ∧ vs = v0 :: ws ∧ Ow c.K H G o v0 fp ∧ RpA c.K H G ws ds ∧ ds.length = n ∧ m o ds = some (r, o') ∧ match r with
  | .ok d => ∀ v H' G' fp', Step H G (· ∈ fp) H' G' (· ∈ fp') → GHeld H' G' → Ow c.K H' G' o' v0 fp' → Rp c.K H' G' v d → Q v H'
  | .error x => ∀ cls dd H' G' fp', Step H G (· ∈ fp) H' G' (· ∈ fp') → GHeld H' G' → Ow c.K H' G' o' v0 fp' → c.xr x cls dd H' → E cls dd H'
def spOf (c : Ct) : Mean → Sp
  | .exn _ => fun _ _ _ _ => False
  | .pure n m => spPure c n m
  | .mk n m => spMk c n m
  | .io n m => spIo c n m
def arity : Mean → Nat
  | .exn _ => 0
  | .pure n _ => n
  | .mk n _ => n
  | .io n _ => n + 1
/-- a def of the module keeps its promise, with room for it here -/
def FnAt (c : Ct) (X : Cx) (f : Str) (m : Mean) : Prop := ∃ (fa : Addr) (fd : FuncData) (ps : List Str) (k : Nat), FnG X.prog X.w X.K X.mg X.base k fa fd ps (spOf c m) ∧ RoomG k X.A ∧ c.mg f = some (.ref fa) ∧ PySem.W.keepIn c.K (.ref fa) = true ∧ Binds c.K fd ps [] ∧ (f == ("__debug__" : Str)) = false
def bltNames : List Str := ["len", "int", "max", "min", "sum", "all", "any", "tuple", "list", "divmod", "isinstance", "range", "enumerate", "zip", "bool", "str", "dict", "sorted", "set", "repr"]
structure CtxOk (c : Ct) (X : Cx) (W : WX) (N : List Str) (sc : Scope) (fn : Str → Bool) : Prop where
  eK : X.K = c.K
  eM : X.mg = c.mg
  eN : X.N = N
  eS : X.env.scope = sc
  eF : X.fn = fn
  nd : N.Nodup
  calm : X.calm = true
  tk : Takes X W
  rm : RoomG 0 X.A
  fns : ∀ f m, c.Γ.fn f = some m → FnAt c X f m
  exs : ∀ x f, c.Γ.ex x = some f → ExcAt c X x f
  blt : ∀ x ∈ bltNames, c.mg x = none
  glob : ∀ x d, c.Γ.const x = some d → (x == ("__debug__" : Str)) = false ∧ ∃ u v, c.mg x = some u ∧ RelV v u ∧ ∀ H G, Rp c.K H G v d

/-- behind a step from (H0, G0, fps0): the state, and the places fpt of the thing at hand -/
structure Aft (K : PySem.W.Frag) (σ : L2.St) (H0 : Hp) (G0 : Addr → Prop) (fps0 : Fs) (env : Env) (H : Hp) (G : Addr → Prop) (fps : Fs) (fpt : List Addr) : Prop where
  E : EnvR K env σ H G fps
  S : Step H0 G0 (FF fps0) H G (FF fps)
  new : ∀ b ∈ fpt, FF fps0 b ∨ H0 b = none
  off : ∀ b ∈ fpt, ¬ FF fps b
section
variable {K : PySem.W.Frag} {σ : L2.St} {H0 H1 H2 H H' : Hp} {G0 G1 G2 G G' F F' : Addr → Prop} {fps0 fps1 fps2 fps : Fs} {env env1 env2 : Env} {fpt fpt1 fpt2 : List Addr}
theorem Aft.refl (E : EnvR K env σ H G fps) : Aft K σ H G fps env H G fps [] := ⟨E, Step.refl, (fun b hb => nomatch hb), (fun b hb => nomatch hb)⟩
theorem Aft.next (a : Aft K σ H0 G0 fps0 env1 H1 G1 fps1 fpt1) (b : Aft K σ H1 G1 fps1 env2 H2 G2 fps2 fpt2) : Aft K σ H0 G0 fps0 env2 H2 G2 fps2 fpt2 :=
  ⟨b.E, a.S.trans b.S, fun c hc => by
    rcases b.new c hc with z | z
    · exact a.S.fnew c z
    · exact (a.S.none_of z).symm, b.off⟩
theorem Aft.drop (a : Aft K σ H0 G0 fps0 env1 H1 G1 fps1 fpt1) : Aft K σ H0 G0 fps0 env1 H1 G1 fps1 [] := ⟨a.E, a.S, (fun b hb => nomatch hb), (fun b hb => nomatch hb)⟩
theorem Same.step (s : Same H H') : Step H G F0 H' G F0 := ⟨fun b u e _ => s b u e, fun b xs e => s _ _ e, fun b o u e => s _ _ e, fun _ g => g, fun _ g => .inl g, fun _ f => f.elim⟩
theorem Same.stepF (s : Same H H') : Step H G F H' G F := ⟨fun b u e _ => s b u e, fun b xs e => s _ _ e, fun b o u e => s _ _ e, fun _ g => g, fun _ g => .inl g, fun _ f => .inl f⟩
/-- the names are as they were, where only other places have changed -/
theorem EnvR.step (E : EnvR K env σ H G fps) (s : Step H G F H' G' F') (d1 : ∀ b, FF fps b → ¬ F b) (d2 : ∀ b, G b → ¬ F b) (gh : GHeld H' G') : EnvR K env σ H' G' fps :=
  ⟨gh, E.len, fun i o h => by
    obtain ⟨v, e, r⟩ := E.rep i o h
    exact ⟨v, e, r.step s d2 fun b hb => d1 b ⟨i, hb⟩⟩, E.emp, E.dis⟩
theorem EnvR.same (E : EnvR K env σ H G fps) (s : Same H H') : EnvR K env σ H' G fps := E.step (Same.step s) (fun _ _ f => f) (fun _ _ f => f) fun b g => by
  obtain ⟨u, e⟩ := E.gh b g
  exact ⟨u, s _ _ e⟩
theorem Ow.same {o : O} {v : V} {fp : List Addr} (s : Same H H') (h : Ow K H G o v fp) : Ow K H' G o v fp := h.step (Same.step s) (fun _ _ f => f) fun _ _ f => f
/-- a thing at hand stays through a further step -/
theorem PR.next {p : P} {v : V} {ne : Bool} (a : Aft K σ H0 G0 fps0 env1 H1 G1 fps1 fpt1) (r : PR K H1 G1 σ env1 p v fpt1) (b : Aft K σ H1 G1 fps1 env2 H2 G2 fps2 fpt2) (st : p.still ne = true) (hs : ne = true → Same H1 H2) :
    PR K H2 G2 σ env2 p v fpt1 ∧ Aft K σ H0 G0 fps0 env2 H2 G2 fps2 fpt1 := by
  cases p with
  | val o =>
    have r' : Ow K H1 G1 o v fpt1 := r
    refine ⟨r'.step b.S a.E.gf a.off, b.E, a.S.trans b.S, a.new, fun c hc f => ?_⟩
    rcases b.S.fnew c f with z | z
    · exact a.off c hc z
    · obtain ⟨_, u, e⟩ := r'.held c hc
      rw [e] at z; cases z
  | plc i =>
    obtain ⟨rfl, r⟩ := r
    exact ⟨⟨rfl, r⟩, (a.next b).drop⟩
  | plf i k =>
    obtain ⟨rfl, x, rv, h1, h2, h3⟩ := r
    exact ⟨⟨rfl, x, rv, h1, hs st _ _ h2, h3⟩, (a.next b).drop⟩
/-- what a name held is frozen -/
theorem freeze_slot {i : Nat} {o : O} {d : D} {v : V} (E : EnvR K env σ H G fps) (hs : slot env i = some o) (hv : σ[i]? = some (some v)) (hd : o.flat = some d) :
    ∃ G' fps', EnvR K (env.set i (some (.fz d))) σ H G' fps' ∧ Step H G (FF fps) H G' (FF fps') ∧ Rp K H G' v d := by
  obtain ⟨w, hw, ho⟩ := E.rep i o hs
  rw [hv] at hw
  cases hw
  have hi := slot_lt hs
  refine ⟨fun b => G b ∨ b ∈ fps i, updF fps i [], ⟨fun b g => ?_, by rw [List.length_set]; exact E.len, fun j o' hj => ?_, fun j hj => ?_, fun j k a ha hb => ?_⟩, ⟨fun b u e _ => e, fun b xs e => e, fun b o u e => e, fun b g => .inl g, fun b g => g.elim .inl fun z => .inr (.inl ⟨i, z⟩), fun b ⟨j, hj⟩ => ?_⟩, ow_freeze ho hd (fun b g => .inl g) fun b hb => .inr hb⟩
  · rcases g with g | g
    · exact E.gh b g
    · exact (ho.held b g).2
  · rw [slot_set hi] at hj
    by_cases e : j = i
    · rw [if_pos e] at hj
      cases hj
      subst e
      exact ⟨v, hv, updF_same, ow_freeze ho hd (fun b g => .inl g) fun b hb => .inr hb⟩
    · rw [if_neg e] at hj
      obtain ⟨w, hw, r⟩ := E.rep j o' hj
      rw [updF_ne e]
      refine ⟨w, hw, r.mono (sub_G fun b g => .inl g) (fun b _ u e => e) fun b hb g => ?_⟩
      rcases g with g | g
      · exact (r.held b hb).1 g
      · exact e (E.dis j i b hb g)
  · rw [slot_set hi] at hj
    by_cases e : j = i
    · rw [e, updF_same]
    · rw [if_neg e] at hj
      rw [updF_ne e]
      exact E.emp j hj
  · unfold updF at ha hb
    split at ha
    · cases ha
    · split at hb
      · cases hb
      · exact E.dis j k a ha hb
  · unfold updF at hj
    split at hj
    · cases hj
    · exact .inl ⟨j, hj⟩
/-- a thing at hand is kept by its value: what a name held is frozen -/
theorem share_ok {p : P} {o : O} {v : V} (a : Aft K σ H0 G0 fps0 env H G fps fpt) (r : PR K H G σ env p v fpt) (e : share p env = some (.ok o env2)) :
    ∃ G' fps' fpt', Aft K σ H0 G0 fps0 env2 H G' fps' fpt' ∧ Ow K H G' o v fpt' := by
  cases p with
  | val o' =>
    cases e
    exact ⟨G, fps, fpt, a, r⟩
  | plc i =>
    obtain ⟨rfl, hv⟩ := r
    unfold share at e
    simp only at e
    split at e
    · rename_i o' hs
      split at e
      · rename_i d hd
        cases e
        obtain ⟨G', fps', E', S', R'⟩ := freeze_slot a.E hs hv hd
        exact ⟨G', fps', [], ⟨E', a.S.trans S', (fun b hb => nomatch hb), (fun b hb => nomatch hb)⟩, rfl, R'⟩
      · cases e
    · cases e
  | plf i k => cases e
theorem share_not {p : P} {x : Exn} (e : share p env = some (.exc x env2)) : False := by
  cases p with
  | val o' => cases e
  | plc i =>
    unfold share at e
    simp only at e
    split at e
    · split at e <;> cases e
    · cases e
  | plf i k => cases e
/-- a thing at hand is handed over -/
theorem mv_ok {p : P} {o : O} {v : V} (a : Aft K σ H0 G0 fps0 env H G fps fpt) (r : PR K H G σ env p v fpt) (e : mv p env = some (.ok o env2)) :
    ∃ G' fps' fpt', Aft K σ H0 G0 fps0 env2 H G' fps' fpt' ∧ Ow K H G' o v fpt' := by
  cases p with
  | val o' =>
    cases e
    exact ⟨G, fps, fpt, a, r⟩
  | plc i =>
    obtain ⟨rfl, hv⟩ := r
    unfold mv at e
    simp only at e
    split at e
    · rename_i d hs
      cases e
      obtain ⟨w, hw, ho⟩ := a.E.rep i _ hs
      rw [hv] at hw
      cases hw
      obtain ⟨h1, h2⟩ := ho
      exact ⟨G, fps, [], a, rfl, h2⟩
    · rename_i o' hnf hs
      cases e
      obtain ⟨w, hw, ho⟩ := a.E.rep i _ hs
      rw [hv] at hw
      cases hw
      have hi := slot_lt hs
      refine ⟨G, updF fps i [], fps i, ⟨⟨a.E.gh, by rw [List.length_set]; exact a.E.len, fun j o2 hj => ?_, fun j hj => ?_, fun j k b hb hb' => ?_⟩, ⟨a.S.keep, a.S.tups, a.S.frzs, a.S.gsub, a.S.gnew, fun b ⟨j, hj⟩ => ?_⟩, fun b hb => a.S.fnew b ⟨i, hb⟩, fun b hb ⟨j, hj⟩ => ?_⟩, ho⟩
      · rw [slot_set hi] at hj
        by_cases e : j = i
        · rw [if_pos e] at hj; cases hj
        · rw [if_neg e] at hj
          rw [updF_ne e]
          exact a.E.rep j o2 hj
      · by_cases e : j = i
        · rw [e, updF_same]
        · rw [slot_set hi, if_neg e] at hj
          rw [updF_ne e]; exact a.E.emp j hj
      · unfold updF at hb hb'
        split at hb
        · cases hb
        · split at hb'
          · cases hb'
          · exact a.E.dis j k b hb hb'
      · unfold updF at hj
        split at hj
        · cases hj
        · exact a.S.fnew b ⟨j, hj⟩
      · unfold updF at hj
        split at hj
        · cases hj
        · rename_i e; exact e (a.E.dis j i b hj hb)
    · cases e
  | plf i k => cases e
theorem mv_not {p : P} {x : Exn} (e : mv p env = some (.exc x env2)) : False := by
  cases p with
  | val o' => cases e
  | plc i =>
    unfold mv at e
    simp only at e
    split at e <;> cases e
  | plf i k => cases e
/-- an owned thing at hand is frozen -/
theorem freeze_ok {o : O} {d : D} {v : V} (a : Aft K σ H0 G0 fps0 env H G fps fpt) (r : Ow K H G o v fpt) (e : o.flat = some d) :
    ∃ G', Aft K σ H0 G0 fps0 env H G' fps [] ∧ Rp K H G' v d := by
  refine ⟨fun b => G b ∨ b ∈ fpt, ⟨⟨fun b g => ?_, a.E.len, fun j o' hj => ?_, a.E.emp, a.E.dis⟩, ⟨a.S.keep, a.S.tups, a.S.frzs, fun b g => .inl (a.S.gsub b g), fun b g => ?_, a.S.fnew⟩, (fun b hb => nomatch hb), (fun b hb => nomatch hb)⟩, ow_freeze r e (fun b g => .inl g) fun b hb => .inr hb⟩
  · rcases g with g | g
    · exact a.E.gh b g
    · exact (r.held b g).2
  · obtain ⟨w, hw, q⟩ := a.E.rep j o' hj
    refine ⟨w, hw, q.mono (sub_G fun b g => .inl g) (fun b _ u e => e) fun b hb g => ?_⟩
    rcases g with g | g
    · exact (q.held b hb).1 g
    · exact a.off b g ⟨j, hb⟩
  · rcases g with g | g
    · exact a.S.gnew b g
    · exact .inr (a.new b g)
theorem frz_ok {p : P} {d : D} {v : V} (a : Aft K σ H0 G0 fps0 env H G fps fpt) (r : PR K H G σ env p v fpt) (e : frz p env = some (.ok d env2)) :
    ∃ G' fps', Aft K σ H0 G0 fps0 env2 H G' fps' [] ∧ Rp K H G' v d := by
  unfold frz at e
  cases q : share p env with
  | none => rw [q] at e; cases e
  | some out =>
    cases out with
    | exc x e2 => exact (share_not q).elim
    | ok o e2 =>
      rw [q, bnd_ok] at e
      split at e
      · rename_i d' hd
        cases e
        obtain ⟨G', fps', fpt', a', r'⟩ := share_ok a r q
        obtain ⟨G2, a2, r2⟩ := freeze_ok a' r' hd
        exact ⟨G2, fps', a2, r2⟩
      · cases e
theorem frz_not {p : P} {x : Exn} (e : frz p env = some (.exc x env2)) : False := by
  unfold frz at e
  cases q : share p env with
  | none => rw [q] at e; cases e
  | some out =>
    cases out with
    | exc x e2 => exact share_not q
    | ok o e2 =>
      rw [q, bnd_ok] at e
      split at e <;> cases e
/-- a result laid on the heap -/
theorem resO_of {o : O} {Q : VK} (E : EnvR K env σ H G fps) (h : ∀ v H' fp, Aft K σ H G fps env H' G fps fp → Ow K H' G o v fp → Same H H' → Q v H') : ResO K H G o Q :=
  fun v H' fp s _ r hn => h v H' fp ⟨E.same s, Same.stepF s, fun b hb => .inr (hn b hb), fun b hb f => by
    obtain ⟨_, u, e⟩ := E.held f
    rw [hn b hb] at e; cases e⟩ r s
end
theorem Aft.frame {K : PySem.W.Frag} {σ : L2.St} {H0 H1 H2 : Hp} {G0 G1 G2 : Addr → Prop} {fps0 fps1 fps2 : Fs} {env1 env2 : Env} {fpt1 fpt2 : List Addr} {v : V} {d : D}
    (a : Aft K σ H0 G0 fps0 env1 H1 G1 fps1 fpt1) (b : Aft K σ H1 G1 fps1 env2 H2 G2 fps2 fpt2) (r : Rp K H1 G1 v d) : Rp K H2 G2 v d := dp_mono (b.S.sub a.E.gf) _ _ r
theorem Aft.frames {K : PySem.W.Frag} {σ : L2.St} {H0 H1 H2 : Hp} {G0 G1 G2 : Addr → Prop} {fps0 fps1 fps2 : Fs} {env1 env2 : Env} {fpt1 fpt2 : List Addr} {vs : List V} {ds : List D}
    (a : Aft K σ H0 G0 fps0 env1 H1 G1 fps1 fpt1) (b : Aft K σ H1 G1 fps1 env2 H2 G2 fps2 fpt2) (r : RpA K H1 G1 vs ds) : RpA K H2 G2 vs ds := dpAll_mono (b.S.sub a.E.gf) _ _ r

/-! ### goals -/
/-- what is wanted behind an expression -/
def GE (c : Ct) (W : WX) (σ : L2.St) (H : Hp) (G : Addr → Prop) (fps : Fs) (ne : Bool) (Q : VK) : Out P → Prop
  | .ok p env' => ∀ v H' G' fps' fpt, Aft c.K σ H G fps env' H' G' fps' fpt → PR c.K H' G' σ env' p v fpt → (ne = true → Same H H') → Q v H'
  | .exc x env' => ∀ cls d H' G' fps', Aft c.K σ H G fps env' H' G' fps' [] → c.xr x cls d H' → W cls d σ H'
def GT (c : Ct) (W : WX) (σ : L2.St) (H : Hp) (G : Addr → Prop) (fps : Fs) (ne : Bool) (Q : Bool → Hp → Prop) : Out Bool → Prop
  | .ok b env' => ∀ H' G' fps', Aft c.K σ H G fps env' H' G' fps' [] → (ne = true → Same H H') → Q b H'
  | .exc x env' => ∀ cls d H' G' fps', Aft c.K σ H G fps env' H' G' fps' [] → c.xr x cls d H' → W cls d σ H'
def GD (c : Ct) (W : WX) (σ : L2.St) (H : Hp) (G : Addr → Prop) (fps : Fs) (ne : Bool) (Q : List V → Hp → Prop) : Out (List D) → Prop
  | .ok ds env' => ∀ vs H' G' fps', Aft c.K σ H G fps env' H' G' fps' [] → RpA c.K H' G' vs ds → (ne = true → Same H H') → Q vs H'
  | .exc x env' => ∀ cls d H' G' fps', Aft c.K σ H G fps env' H' G' fps' [] → c.xr x cls d H' → W cls d σ H'
inductive PRs (K : PySem.W.Frag) (H : Hp) (G : Addr → Prop) (σ : L2.St) (env : Env) : List P → List V → List Addr → Prop
  | nil : PRs K H G σ env [] [] []
  | cons {p : P} {ps : List P} {v : V} {vs : List V} {f1 f2 : List Addr} : PR K H G σ env p v f1 → PRs K H G σ env ps vs f2 → PRs K H G σ env (p :: ps) (v :: vs) (f1 ++ f2)
def GP (c : Ct) (W : WX) (σ : L2.St) (H : Hp) (G : Addr → Prop) (fps : Fs) (ne : Bool) (Q : List V → Hp → Prop) : Out (List P) → Prop
  | .ok ps env' => ∀ vs H' G' fps' fpt, Aft c.K σ H G fps env' H' G' fps' fpt → PRs c.K H' G' σ env' ps vs fpt → (ne = true → Same H H') → Q vs H'
  | .exc x env' => ∀ cls d H' G' fps', Aft c.K σ H G fps env' H' G' fps' [] → c.xr x cls d H' → W cls d σ H'
theorem Aft.app {K : PySem.W.Frag} {σ : L2.St} {H0 H : Hp} {G0 G : Addr → Prop} {fps0 fps : Fs} {env : Env} {f1 f2 : List Addr} (a : Aft K σ H0 G0 fps0 env H G fps f1) (b : Aft K σ H0 G0 fps0 env H G fps f2) : Aft K σ H0 G0 fps0 env H G fps (f1 ++ f2) :=
  ⟨a.E, a.S, fun c hc => (List.mem_append.mp hc).elim (a.new c) (b.new c), fun c hc => (List.mem_append.mp hc).elim (a.off c) (b.off c)⟩
theorem prs_flats {K : PySem.W.Frag} {env : Env} {σ : L2.St} {H : Hp} {G : Addr → Prop} {fps : Fs} (E : EnvR K env σ H G fps) : ∀ {ps : List P} {vs : List V} {fp : List Addr} {ds : List D}, PRs K H G σ env ps vs fp → flats ps env = some ds → RpSs K H G vs ds
  | _, _, _, ds, .nil, e => by
    have e' : some [] = some ds := e
    cases e'
    exact .nil
  | _, _, _, ds, .cons (p := p) (ps := ps) h1 h2, e => by
    have e' : (match flatP p env, flats ps env with
      | some d, some ds => some (d :: ds)
      | _, _ => none) = some ds := e
    split at e'
    · rename_i d ds' e1 e2
      cases e'
      exact .cons (pr_flat E h1 e1) (prs_flats E h2 e2)
    · cases e'
/-- the ways of a bind -/
theorem bnd_ways {α β : Type} {x : Option (Out α)} {f : α → Env → Option (Out β)} {out : Out β} (h : bnd x f = some out) : (∃ a e, x = some (.ok a e) ∧ f a e = some out) ∨ ∃ y e, x = some (.exc y e) ∧ out = .exc y e := by
  cases x with
  | none => cases h
  | some o =>
    cases o with
    | ok a e => exact .inl ⟨a, e, rfl, h⟩
    | exc y e => cases h; exact .inr ⟨y, e, rfl, rfl⟩
end NW
end
section
set_option linter.all false
set_option maxRecDepth 100000
set_option maxHeartbeats 1000000
/-! NWf: a text is a core text (Bool); expressions: what the evaluator tells, the machine does -/
namespace NW
open PySem L2 PyProof.Rows
/-! ### matching -/
def visB (sc : Scope) (x : Str) : Bool := match sc.names.lookup x with
  | some .local | some .cell | some .free => true
  | _ => false
def glB (sc : Scope) (x : Str) : Bool := match sc.names.lookup x with
  | some .globalImplicit => true
  | _ => false
def tgB (sc : Scope) (fn : Str → Bool) (x : Str) : Bool := match sc.names.lookup x with
  | some .local => true
  | some .cell => fn x
  | _ => false
def nmB (x : Str) : Bool := !(x == ("__debug__" : Str)) && !(x == ("__classdict__" : Str))
def isSlice : Expr → Bool
  | .Slice .. => true
  | _ => false
def isSet : Expr → Bool
  | .Set .. => true
  | _ => false
def isStar : Expr → Bool
  | .Starred .. => true
  | _ => false
/-- as a test, an expression by its truth -/
def plainTest : Expr → Bool
  | .UnaryOp .Not _ _ => false
  | .BoolOp .. => false
  | .IfExp .. => false
  | .Compare .. => false
  | _ => true
def ownP (N : List Str) (own : List Nat) : List (Str × Nat) := own.map fun i => ((N[i]?).getD "", i)
def mNames (N : List Str) (sc : Scope) (fn : Str → Bool) : List Nat → List Expr → Bool
  | [], [] => true
  | i :: is, .Name x _ :: es => decide (N[i]? = some x) && tgB sc fn x && mNames N sc fn is es
  | _, _ => false
def mT (N : List Str) (sc : Scope) (fn : Str → Bool) : CT → Expr → Bool
  | .name i, .Name x _ => decide (N[i]? = some x) && tgB sc fn x
  | .tup l, .Tuple es _ _ => mNames N sc fn l es
  | _, _ => false
def mKeys : List Str → List (Option Expr) → Bool
  | [], [] => true
  | k :: ks, some (.Constant (.str x) _ _) :: es => decide (k = x) && mKeys ks es
  | _, _ => false
mutual
def mE (N : List Str) : CE → Scope → (Str → Bool) → Expr → Bool
  | .lit d, _, _, e => match d, e with
    | .int i, .Constant (.int j) _ _ => decide (i = j)
    | .bool i, .Constant (.bool j) _ _ => decide (i = j)
    | .str i, .Constant (.str j) _ _ => decide (i = j)
    | .none, .Constant .none _ _ => true
    | _, _ => false
  | .var i, sc, _, e => match e with
    | .Name x _ => decide (N[i]? = some x) && visB sc x && nmB x
    | _ => false
  | .glob y, sc, _, e => match e with
    | .Name x _ => decide (y = x) && glB sc x && nmB x
    | _ => false
  | .tup es, sc, fn, e => match e with
    | .Tuple l _ _ => mEs N es sc fn l
    | _ => false
  | .comp2 own t src own1 t1 src1 elt, sc, fn, e => match e with
    | .ListComp el [⟨tg, it, [], 0⟩, ⟨tg1, it1, [], 0⟩] scope _ => blkC N sc scope (ownP N own) && own1.all (fun i => own.contains i) && !(isSet it) && !(isSet it1) && mI N src sc fn tg it &&
        mT N (relS scope sc) (fun x => scope.names.lookup x == some .cell) t tg && mI N src1 (relS scope sc) (fun x => scope.names.lookup x == some .cell) tg1 it1 && mT N (relS scope sc) (fun x => scope.names.lookup x == some .cell) t1 tg1 && mE N elt (relS scope sc) (fun x => scope.names.lookup x == some .cell) el
    | _ => false
  | .kd0, sc, fn, e => match e with
    | .Dict [] [] _ => true
    | _ => false
  | .lenk a, sc, fn, e => match e with
    | .Call (.Name x _) [y] [] _ => decide (x = "len") && glB sc x && !(isStar y) && mE N a sc fn y
    | _ => false
  | .kcomp own t src cond key val, sc, fn, e => match e with
    | .DictComp kx vx [⟨tg, it, ifs, 0⟩] scope _ => blkC N sc scope (ownP N own) && !(isSet it) && mI N src sc fn tg it &&
        mT N (relS scope sc) (fun x => scope.names.lookup x == some .cell) t tg && mE N key (relS scope sc) (fun x => scope.names.lookup x == some .cell) kx && mE N val (relS scope sc) (fun x => scope.names.lookup x == some .cell) vx &&
        (match ifs with
        | [] => (match cond with | .yes => true | _ => false)
        | [x] => mB N cond (relS scope sc) (fun x => scope.names.lookup x == some .cell) x
        | _ => false)
    | _ => false
  | .sset a, sc, fn, e => match e with
    | .Call (.Name x _) [.Call (.Name y _) [z] [] _] [] _ => decide (x = "sorted") && glB sc x && decide (y = "set") && glB sc y && !(isStar z) && mE N a sc fn z
    | _ => false
  | .tups a es, sc, fn, e => match e with
    | .Tuple (.Starred x _ :: l) _ _ => mE N a sc fn x && mEs N es sc fn l
    | _ => false
  | .lst es, sc, fn, e => match e with
    | .List l _ => mEs N es sc fn l
    | _ => false
  | .dct ks es, sc, fn, e => match e with
    | .Dict keys vals _ => mKeys ks keys && mEs N es sc fn vals && decide (ks.length = vals.length) && decide (ks ≠ []) && decide (ks.length ≤ 15)
    | _ => false
  | .bin k a b, sc, fn, e => match e with
    | .BinOp l o r _ => decide (o = binOp k) && mE N a sc fn l && mE N b sc fn r
    | _ => false
  | .cmp k a b, sc, fn, e => match e with
    | .Compare l [o] [r] _ => decide (o = cmpOp k) && !(behindInMarks o r) && mE N a sc fn l && mE N b sc fn r
    | _ => false
  | .chain k k' a b c, sc, fn, e => match e with
    | .Compare l [o, o'] [m, r] _ => decide (o = cmpOp k) && decide (o' = cmpOp k') && decide (k ≠ .isin) && decide (k ≠ .notin) && decide (k' ≠ .isin) && decide (k' ≠ .notin) && mE N a sc fn l && mE N b sc fn m && mE N c sc fn r
    | _ => false
  | .isN a, sc, fn, e => match e with
    | .Compare l [.Is] [.Constant .none _ _] _ => mE N a sc fn l
    | _ => false
  | .notN a, sc, fn, e => match e with
    | .Compare l [.IsNot] [.Constant .none _ _] _ => mE N a sc fn l
    | _ => false
  | .and a b, sc, fn, e => match e with
    | .BoolOp .And [x, y] _ => mE N a sc fn x && mE N b sc fn y
    | .BoolOp .And (x :: y :: z :: r) p => mE N a sc fn x && mE N b sc fn (.BoolOp .And (y :: z :: r) p)
    | _ => false
  | .or a b, sc, fn, e => match e with
    | .BoolOp .Or [x, y] _ => mE N a sc fn x && mE N b sc fn y
    | .BoolOp .Or (x :: y :: z :: r) p => mE N a sc fn x && mE N b sc fn (.BoolOp .Or (y :: z :: r) p)
    | _ => false
  | .not a, sc, fn, e => match e with
    | .UnaryOp .Not x _ => mE N a sc fn x
    | _ => false
  | .neg a, sc, fn, e => match e with
    | .UnaryOp .USub x _ => mE N a sc fn x
    | _ => false
  | .ite t a b, sc, fn, e => match e with
    | .IfExp x y z _ => mB N t sc fn x && mE N a sc fn y && mE N b sc fn z
    | _ => false
  | .ix a i, sc, fn, e => match e with
    | .Subscript x j _ => !(isSlice j) && mE N a sc fn x && mE N i sc fn j
    | _ => false
  | .fld i k, sc, _, e => match e with
    | .Subscript (.Name x _) (.Constant (.str y) _ _) _ => decide (N[i]? = some x) && visB sc x && nmB x && decide (k = y)
    | _ => false
  | .sl a lo hi, sc, fn, e => match e with
    | .Subscript x (.Slice l h none _) _ => mE N a sc fn x && mO N lo sc fn l && mO N hi sc fn h
    | _ => false
  | .bi b es, sc, fn, e => match e with
    | .Call (.Name x _) (y :: l) [] _ => decide (x = biName b) && glB sc x && mEs N es sc fn (y :: l)
    | _ => false
  | .isi a T, sc, fn, e => match e with
    | .Call (.Name x _) [y, .Name z _] [] _ => decide (x = "isinstance") && glB sc x && decide (z = Str.ofString (tyName T)) && glB sc z && mE N a sc fn y && !(isStar y)
    | _ => false
  | .idx a y, sc, fn, e => match e with
    | .Call (.Attribute (.Name nm np) m apos) [z] [] cpos => decide (m = "index") && (apos.endLine == cpos.line) && !(isStar z) && mE N a sc fn (.Name nm np) && mE N y sc fn z
    | _ => false
  | .call f es, sc, fn, e => match e with
    | .Call (.Name x _) l [] _ => decide (x = f) && glB sc x && mEs N es sc fn l
    | _ => false
  | .cio f i es, sc, fn, e => match e with
    | .Call (.Name x _) (.Name y _ :: l) [] _ => decide (x = f) && glB sc x && decide (N[i]? = some y) && visB sc y && nmB y && mEs N es sc fn l
    | _ => false
  | .comp own t src cond elt, sc, fn, e => match e with
    | .ListComp el [⟨tg, it, ifs, 0⟩] scope _ => blkC N sc scope (ownP N own) && !(isSet it) && mI N src sc fn tg it &&
        mT N (relS scope sc) (fun x => scope.names.lookup x == some .cell) t tg && mE N elt (relS scope sc) (fun x => scope.names.lookup x == some .cell) el &&
        (match ifs with
        | [] => (match cond with | .yes => true | _ => false)
        | [x] => mB N cond (relS scope sc) (fun x => scope.names.lookup x == some .cell) x
        | _ => false)
    | _ => false
def mB (N : List Str) : CB → Scope → (Str → Bool) → Expr → Bool
  | .yes, _, _, _ => false
  | .of a, sc, fn, e => match e with
    | .UnaryOp .Not _ _ => false
    | .BoolOp _ _ _ => false
    | .IfExp _ _ _ _ => false
    | e => mE N a sc fn e
  | .and a b, sc, fn, e => match e with
    | .BoolOp .And [x, y] _ => mB N a sc fn x && mB N b sc fn y
    | .BoolOp .And (x :: y :: z :: r) p => mB N a sc fn x && mB N b sc fn (.BoolOp .And (y :: z :: r) p)
    | _ => false
  | .or a b, sc, fn, e => match e with
    | .BoolOp .Or [x, y] _ => mB N a sc fn x && mB N b sc fn y
    | .BoolOp .Or (x :: y :: z :: r) p => mB N a sc fn x && mB N b sc fn (.BoolOp .Or (y :: z :: r) p)
    | _ => false
  | .not a, sc, fn, e => match e with
    | .UnaryOp .Not x _ => mB N a sc fn x
    | _ => false
def mEs (N : List Str) : CEs → Scope → (Str → Bool) → List Expr → Bool
  | .nil, _, _, l => match l with
    | [] => true
    | _ => false
  | .cons e es, sc, fn, l => match l with
    | x :: l => !(isStar x) && mE N e sc fn x && mEs N es sc fn l
    | _ => false
def mO (N : List Str) : CEo → Scope → (Str → Bool) → Option Expr → Bool
  | .none, _, _, l => match l with
    | none => true
    | _ => false
  | .some e, sc, fn, l => match l with
    | some x => mE N e sc fn x
    | _ => false
def mI (N : List Str) : CI → Scope → (Str → Bool) → Expr → Expr → Bool
  | .of a, sc, fn, _, e => mE N a sc fn e
  | .rng a, sc, fn, _, e => match e with
    | .Call (.Name x _) [y] [] _ => decide (x = "range") && glB sc x && !(isStar y) && mE N a sc fn y
    | _ => false
  | .rng2 a b, sc, fn, _, e => match e with
    | .Call (.Name x _) [y, z] [] _ => decide (x = "range") && glB sc x && !(isStar y) && !(isStar z) && mE N a sc fn y && mE N b sc fn z
    | _ => false
  | .enum a, sc, fn, tg, e => match tg, e with
    | .Tuple _ _ _, .Call (.Name x _) [y] [] _ => decide (x = "enumerate") && glB sc x && !(isStar y) && mE N a sc fn y
    | _, _ => false
  | .zip a b, sc, fn, tg, e => match tg, e with
    | .Tuple _ _ _, .Call (.Name x _) [y, z] [] _ => decide (x = "zip") && glB sc x && !(isStar y) && !(isStar z) && mE N a sc fn y && mE N b sc fn z
    | _, _ => false
end
theorem mE_lit (N : List Str) {d} {u0} {u1} {e} : mE N (.lit d) u0 u1 e = (match d, e with
    | .int i, .Constant (.int j) _ _ => decide (i = j)
    | .bool i, .Constant (.bool j) _ _ => decide (i = j)
    | .str i, .Constant (.str j) _ _ => decide (i = j)
    | .none, .Constant .none _ _ => true
    | _, _ => false) := rfl
theorem mE_var (N : List Str) {i} {sc} {u0} {e} : mE N (.var i) sc u0 e = (match e with
    | .Name x _ => decide (N[i]? = some x) && visB sc x && nmB x
    | _ => false) := rfl
theorem mE_glob (N : List Str) {y} {sc} {u0} {e} : mE N (.glob y) sc u0 e = (match e with
    | .Name x _ => decide (y = x) && glB sc x && nmB x
    | _ => false) := rfl
theorem mE_tup (N : List Str) {es} {sc} {fn} {e} : mE N (.tup es) sc fn e = (match e with
    | .Tuple l _ _ => mEs N es sc fn l
    | _ => false) := rfl
theorem mE_comp2 (N : List Str) {own} {t} {src} {own1} {t1} {src1} {elt} {sc} {fn} {e} : mE N (.comp2 own t src own1 t1 src1 elt) sc fn e = (match e with
    | .ListComp el [⟨tg, it, [], 0⟩, ⟨tg1, it1, [], 0⟩] scope _ => blkC N sc scope (ownP N own) && own1.all (fun i => own.contains i) && !(isSet it) && !(isSet it1) && mI N src sc fn tg it &&
        mT N (relS scope sc) (fun x => scope.names.lookup x == some .cell) t tg && mI N src1 (relS scope sc) (fun x => scope.names.lookup x == some .cell) tg1 it1 && mT N (relS scope sc) (fun x => scope.names.lookup x == some .cell) t1 tg1 && mE N elt (relS scope sc) (fun x => scope.names.lookup x == some .cell) el
    | _ => false) := rfl
theorem mE_kd0 (N : List Str) {sc} {fn} {e} : mE N (.kd0) sc fn e = (match e with
    | .Dict [] [] _ => true
    | _ => false) := (rfl)
theorem mE_lenk (N : List Str) {a} {sc} {fn} {e} : mE N (.lenk a) sc fn e = (match e with
    | .Call (.Name x _) [y] [] _ => decide (x = "len") && glB sc x && !(isStar y) && mE N a sc fn y
    | _ => false) := (rfl)
theorem mE_kcomp (N : List Str) {own} {t} {src} {cond} {key} {val} {sc} {fn} {e} : mE N (.kcomp own t src cond key val) sc fn e = (match e with
    | .DictComp kx vx [⟨tg, it, ifs, 0⟩] scope _ => blkC N sc scope (ownP N own) && !(isSet it) && mI N src sc fn tg it &&
        mT N (relS scope sc) (fun x => scope.names.lookup x == some .cell) t tg && mE N key (relS scope sc) (fun x => scope.names.lookup x == some .cell) kx && mE N val (relS scope sc) (fun x => scope.names.lookup x == some .cell) vx &&
        (match ifs with
        | [] => (match cond with | .yes => true | _ => false)
        | [x] => mB N cond (relS scope sc) (fun x => scope.names.lookup x == some .cell) x
        | _ => false)
    | _ => false) := (rfl)
theorem mE_sset (N : List Str) {a} {sc} {fn} {e} : mE N (.sset a) sc fn e = (match e with
    | .Call (.Name x _) [.Call (.Name y _) [z] [] _] [] _ => decide (x = "sorted") && glB sc x && decide (y = "set") && glB sc y && !(isStar z) && mE N a sc fn z
    | _ => false) := rfl
theorem mE_tups (N : List Str) {a} {es} {sc} {fn} {e} : mE N (.tups a es) sc fn e = (match e with
    | .Tuple (.Starred x _ :: l) _ _ => mE N a sc fn x && mEs N es sc fn l
    | _ => false) := rfl
theorem mE_lst (N : List Str) {es} {sc} {fn} {e} : mE N (.lst es) sc fn e = (match e with
    | .List l _ => mEs N es sc fn l
    | _ => false) := rfl
theorem mE_dct (N : List Str) {ks} {es} {sc} {fn} {e} : mE N (.dct ks es) sc fn e = (match e with
    | .Dict keys vals _ => mKeys ks keys && mEs N es sc fn vals && decide (ks.length = vals.length) && decide (ks ≠ []) && decide (ks.length ≤ 15)
    | _ => false) := rfl
theorem mE_bin (N : List Str) {k} {a} {b} {sc} {fn} {e} : mE N (.bin k a b) sc fn e = (match e with
    | .BinOp l o r _ => decide (o = binOp k) && mE N a sc fn l && mE N b sc fn r
    | _ => false) := rfl
theorem mE_cmp (N : List Str) {k} {a} {b} {sc} {fn} {e} : mE N (.cmp k a b) sc fn e = (match e with
    | .Compare l [o] [r] _ => decide (o = cmpOp k) && !(behindInMarks o r) && mE N a sc fn l && mE N b sc fn r
    | _ => false) := rfl
theorem mE_chain (N : List Str) {k} {k'} {a} {b} {c} {sc} {fn} {e} : mE N (.chain k k' a b c) sc fn e = (match e with
    | .Compare l [o, o'] [m, r] _ => decide (o = cmpOp k) && decide (o' = cmpOp k') && decide (k ≠ .isin) && decide (k ≠ .notin) && decide (k' ≠ .isin) && decide (k' ≠ .notin) && mE N a sc fn l && mE N b sc fn m && mE N c sc fn r
    | _ => false) := rfl
theorem mE_isN (N : List Str) {a} {sc} {fn} {e} : mE N (.isN a) sc fn e = (match e with
    | .Compare l [.Is] [.Constant .none _ _] _ => mE N a sc fn l
    | _ => false) := rfl
theorem mE_notN (N : List Str) {a} {sc} {fn} {e} : mE N (.notN a) sc fn e = (match e with
    | .Compare l [.IsNot] [.Constant .none _ _] _ => mE N a sc fn l
    | _ => false) := rfl
theorem mE_and (N : List Str) {a} {b} {sc} {fn} {e} : mE N (.and a b) sc fn e = (match e with
    | .BoolOp .And [x, y] _ => mE N a sc fn x && mE N b sc fn y
    | .BoolOp .And (x :: y :: z :: r) p => mE N a sc fn x && mE N b sc fn (.BoolOp .And (y :: z :: r) p)
    | _ => false) := rfl
theorem mE_or (N : List Str) {a} {b} {sc} {fn} {e} : mE N (.or a b) sc fn e = (match e with
    | .BoolOp .Or [x, y] _ => mE N a sc fn x && mE N b sc fn y
    | .BoolOp .Or (x :: y :: z :: r) p => mE N a sc fn x && mE N b sc fn (.BoolOp .Or (y :: z :: r) p)
    | _ => false) := rfl
theorem mE_not (N : List Str) {a} {sc} {fn} {e} : mE N (.not a) sc fn e = (match e with
    | .UnaryOp .Not x _ => mE N a sc fn x
    | _ => false) := rfl
theorem mE_neg (N : List Str) {a} {sc} {fn} {e} : mE N (.neg a) sc fn e = (match e with
    | .UnaryOp .USub x _ => mE N a sc fn x
    | _ => false) := rfl
theorem mE_ite (N : List Str) {t} {a} {b} {sc} {fn} {e} : mE N (.ite t a b) sc fn e = (match e with
    | .IfExp x y z _ => mB N t sc fn x && mE N a sc fn y && mE N b sc fn z
    | _ => false) := rfl
theorem mE_ix (N : List Str) {a} {i} {sc} {fn} {e} : mE N (.ix a i) sc fn e = (match e with
    | .Subscript x j _ => !(isSlice j) && mE N a sc fn x && mE N i sc fn j
    | _ => false) := rfl
theorem mE_fld (N : List Str) {i} {k} {sc} {u0} {e} : mE N (.fld i k) sc u0 e = (match e with
    | .Subscript (.Name x _) (.Constant (.str y) _ _) _ => decide (N[i]? = some x) && visB sc x && nmB x && decide (k = y)
    | _ => false) := rfl
theorem mE_sl (N : List Str) {a} {lo} {hi} {sc} {fn} {e} : mE N (.sl a lo hi) sc fn e = (match e with
    | .Subscript x (.Slice l h none _) _ => mE N a sc fn x && mO N lo sc fn l && mO N hi sc fn h
    | _ => false) := rfl
theorem mE_bi (N : List Str) {b} {es} {sc} {fn} {e} : mE N (.bi b es) sc fn e = (match e with
    | .Call (.Name x _) (y :: l) [] _ => decide (x = biName b) && glB sc x && mEs N es sc fn (y :: l)
    | _ => false) := rfl
theorem mE_isi (N : List Str) {a} {sc} {fn} {e} : mE N (.isi a T) sc fn e = (match e with
    | .Call (.Name x _) [y, .Name z _] [] _ => decide (x = "isinstance") && glB sc x && decide (z = Str.ofString (tyName T)) && glB sc z && mE N a sc fn y && !(isStar y)
    | _ => false) := rfl
theorem mE_idx (N : List Str) {a} {y} {sc} {fn} {e} : mE N (.idx a y) sc fn e = (match e with
    | .Call (.Attribute (.Name nm np) m apos) [z] [] cpos => decide (m = "index") && (apos.endLine == cpos.line) && !(isStar z) && mE N a sc fn (.Name nm np) && mE N y sc fn z
    | _ => false) := rfl
theorem mE_call (N : List Str) {f} {es} {sc} {fn} {e} : mE N (.call f es) sc fn e = (match e with
    | .Call (.Name x _) l [] _ => decide (x = f) && glB sc x && mEs N es sc fn l
    | _ => false) := rfl
theorem mE_cio (N : List Str) {f} {i} {es} {sc} {fn} {e} : mE N (.cio f i es) sc fn e = (match e with
    | .Call (.Name x _) (.Name y _ :: l) [] _ => decide (x = f) && glB sc x && decide (N[i]? = some y) && visB sc y && nmB y && mEs N es sc fn l
    | _ => false) := rfl
theorem mE_comp (N : List Str) {own} {t} {src} {cond} {elt} {sc} {fn} {e} : mE N (.comp own t src cond elt) sc fn e = (match e with
    | .ListComp el [⟨tg, it, ifs, 0⟩] scope _ => blkC N sc scope (ownP N own) && !(isSet it) && mI N src sc fn tg it &&
        mT N (relS scope sc) (fun x => scope.names.lookup x == some .cell) t tg && mE N elt (relS scope sc) (fun x => scope.names.lookup x == some .cell) el &&
        (match ifs with
        | [] => (match cond with | .yes => true | _ => false)
        | [x] => mB N cond (relS scope sc) (fun x => scope.names.lookup x == some .cell) x
        | _ => false)
    | _ => false) := rfl
theorem mB_yes (N : List Str) {u0} {u1} {u2} : mB N (.yes) u0 u1 u2 = (false) := rfl
theorem mB_of (N : List Str) {a} {sc} {fn} {e} : mB N (.of a) sc fn e = (match e with
    | .UnaryOp .Not _ _ => false
    | .BoolOp _ _ _ => false
    | .IfExp _ _ _ _ => false
    | e => mE N a sc fn e) := rfl
theorem mB_and (N : List Str) {a} {b} {sc} {fn} {e} : mB N (.and a b) sc fn e = (match e with
    | .BoolOp .And [x, y] _ => mB N a sc fn x && mB N b sc fn y
    | .BoolOp .And (x :: y :: z :: r) p => mB N a sc fn x && mB N b sc fn (.BoolOp .And (y :: z :: r) p)
    | _ => false) := rfl
theorem mB_or (N : List Str) {a} {b} {sc} {fn} {e} : mB N (.or a b) sc fn e = (match e with
    | .BoolOp .Or [x, y] _ => mB N a sc fn x && mB N b sc fn y
    | .BoolOp .Or (x :: y :: z :: r) p => mB N a sc fn x && mB N b sc fn (.BoolOp .Or (y :: z :: r) p)
    | _ => false) := rfl
theorem mB_not (N : List Str) {a} {sc} {fn} {e} : mB N (.not a) sc fn e = (match e with
    | .UnaryOp .Not x _ => mB N a sc fn x
    | _ => false) := rfl
theorem mEs_nil (N : List Str) {u0} {u1} {l} : mEs N (.nil) u0 u1 l = (match l with
    | [] => true
    | _ => false) := rfl
theorem mEs_cons (N : List Str) {e} {es} {sc} {fn} {l} : mEs N (.cons e es) sc fn l = (match l with
    | x :: l => !(isStar x) && mE N e sc fn x && mEs N es sc fn l
    | _ => false) := rfl
theorem mO_none (N : List Str) {u0} {u1} {l} : mO N (.none) u0 u1 l = (match l with
    | none => true
    | _ => false) := rfl
theorem mO_some (N : List Str) {e} {sc} {fn} {l} : mO N (.some e) sc fn l = (match l with
    | some x => mE N e sc fn x
    | _ => false) := rfl
theorem mI_of (N : List Str) {a} {sc} {fn} {u0} {e} : mI N (.of a) sc fn u0 e = (mE N a sc fn e) := rfl
theorem mI_rng (N : List Str) {a} {sc} {fn} {u0} {e} : mI N (.rng a) sc fn u0 e = (match e with
    | .Call (.Name x _) [y] [] _ => decide (x = "range") && glB sc x && !(isStar y) && mE N a sc fn y
    | _ => false) := rfl
theorem mI_rng2 (N : List Str) {a} {b} {sc} {fn} {u0} {e} : mI N (.rng2 a b) sc fn u0 e = (match e with
    | .Call (.Name x _) [y, z] [] _ => decide (x = "range") && glB sc x && !(isStar y) && !(isStar z) && mE N a sc fn y && mE N b sc fn z
    | _ => false) := rfl
theorem mI_enum (N : List Str) {a} {sc} {fn} {tg} {e} : mI N (.enum a) sc fn tg e = (match tg, e with
    | .Tuple _ _ _, .Call (.Name x _) [y] [] _ => decide (x = "enumerate") && glB sc x && !(isStar y) && mE N a sc fn y
    | _, _ => false) := rfl
theorem mI_zip (N : List Str) {a} {b} {sc} {fn} {tg} {e} : mI N (.zip a b) sc fn tg e = (match tg, e with
    | .Tuple _ _ _, .Call (.Name x _) [y, z] [] _ => decide (x = "zip") && glB sc x && !(isStar y) && !(isStar z) && mE N a sc fn y && mE N b sc fn z
    | _, _ => false) := rfl
theorem visB_ok {sc : Scope} {x : Str} (h : visB sc x = true) : Vis sc x := by
  unfold visB at h
  unfold Vis
  split at h
  · rename_i e; exact .inl e
  · rename_i e; exact .inr (.inl e)
  · rename_i e; exact .inr (.inr e)
  · cases h
theorem glB_ok {sc : Scope} {x : Str} (h : glB sc x = true) : sc.names.lookup x = some .globalImplicit := by
  unfold glB at h
  split at h
  · assumption
  · cases h
theorem tgB_ok {sc : Scope} {fn : Str → Bool} {x : Str} (h : tgB sc fn x = true) : L2.Loc sc x ∧ (fn x = true ∨ sc.names.lookup x = some .local) := by
  unfold tgB at h
  unfold L2.Loc
  split at h
  · rename_i e; exact ⟨.inl e, .inr e⟩
  · rename_i e; exact ⟨.inr e, .inl h⟩
  · cases h
theorem nmB_ok {x : Str} (h : nmB x = true) : (x == ("__debug__" : Str)) = false ∧ (x == ("__classdict__" : Str)) = false := by
  unfold nmB at h
  simpa using h
theorem star_ok {e : Expr} (h : isStar e = false) (es : List Expr) (env : PySem.Env) : starEach (e :: es) env = (false, eval e env) :: starEach es env := by
  cases e <;> first | rfl | cases h
theorem plainIx_ok {b : Expr} (h : isSlice b = false) : PlainIx b := by
  cases b <;> first | exact fun _ _ => rfl | cases h
theorem notSet_ok {it : Expr} (h : isSet it = false) (env : PySem.Env) (x : Value) : foldedSetIterable it env x = pure x := by
  cases it <;> first | rfl | cases h
theorem starEach_any {N : List Str} {fn : Str → Bool} {sc : Scope} (env : PySem.Env) (pos : Pos) : ∀ {es : CEs} {l : List Expr}, mEs N es sc fn l = true → (backTo pos (starEach l env)).any (·.1) = false
  | .nil, [], _ => rfl
  | .cons e es, x :: l, h => by
    simp only [mEs_cons, Bool.and_eq_true, Bool.not_eq_true'] at h
    rw [star_ok h.1.1]
    have ih := starEach_any env pos h.2
    unfold backTo at ih ⊢
    rw [List.map_cons, List.any_cons, ih]
    rfl
  | .nil, _ :: _, h => by simp [mEs_nil] at h
  | .cons _ _, [], h => by simp [mEs_cons] at h
end NW
end
section
set_option linter.all false
set_option maxRecDepth 100000
set_option maxHeartbeats 1000000
/-! NWg: expressions, case by case -/
namespace NW
open PySem L2 PyProof.Rows
/-- a source of items -/
def Src (K : PySem.W.Frag) (J : It) (ds : List D) (H : Hp) (G : Addr → Prop) : Prop :=
  ∃ R0 : Hp → (Addr → Prop) → Prop, R0 H G ∧ (∀ (H : Hp) (G F : Addr → Prop) (H' : Hp) (G' F' : Addr → Prop), Step H G F H' G' F' → (∀ b, G b → ¬ F b) → R0 H G → R0 H' G') ∧
    ∀ (i : Nat) (H : Hp) (G : Addr → Prop), R0 H G → (∀ d, ds[i]? = some d → J.go i H ∧ ∀ x H', J.yld i H x H' → Same H H' ∧ Rp K H' G x d) ∧ (ds.length ≤ i → J.stop i H)
def GI (c : Ct) (W : WX) (σ : L2.St) (H : Hp) (G : Addr → Prop) (fps : Fs) (ne : Bool) (R : It → Hp → Prop) : Out (List D) → Prop
  | .ok ds env' => ∀ J H' G' fps', Aft c.K σ H G fps env' H' G' fps' [] → Src c.K J ds H' G' → (ne = true → Same H H') → R J H'
  | .exc x env' => ∀ cls d H' G' fps', Aft c.K σ H G fps env' H' G' fps' [] → c.xr x cls d H' → W cls d σ H'
def GO (c : Ct) (W : WX) (σ : L2.St) (H : Hp) (G : Addr → Prop) (fps : Fs) (ne : Bool) (Q : Option Int → Hp → Prop) : Out (Option Int) → Prop
  | .ok i env' => ∀ H' G' fps', Aft c.K σ H G fps env' H' G' fps' [] → (ne = true → Same H H') → Q i H'
  | .exc x env' => ∀ cls d H' G' fps', Aft c.K σ H G fps env' H' G' fps' [] → c.xr x cls d H' → W cls d σ H'
/-- the fields of a dict that is made -/
def FldR (K : PySem.W.Frag) (H : Hp) (G : Addr → Prop) : List Fld → List V → List Addr → Prop
  | [], [], fp => fp = []
  | f :: r, v :: rv, fp => ∃ fp1 fp2, fp = fp1 ++ fp2 ∧ (∀ a ∈ fp1, a ∉ fp2) ∧ OwF K H G f v fp1 ∧ FldR K H G r rv fp2
  | _, _, _ => False
def GF (c : Ct) (W : WX) (σ : L2.St) (H : Hp) (G : Addr → Prop) (fps : Fs) (ne : Bool) (Q : List V → Hp → Prop) : Out (List Fld) → Prop
  | .ok fs env' => ∀ vs H' G' fps' fpt, Aft c.K σ H G fps env' H' G' fps' fpt → FldR c.K H' G' fs vs fpt → (ne = true → Same H H') → Q vs H'
  | .exc x env' => ∀ cls d H' G' fps', Aft c.K σ H G fps env' H' G' fps' [] → c.xr x cls d H' → W cls d σ H'

section
variable (c : Ct) (N : List Str)
def SE (sc : Scope) (fn : Str → Bool) (e : Expr) (a : CE) : Prop := ∀ X W, CtxOk c X W N sc fn → ∀ env σ H G fps out Q, EnvR c.K env σ H G fps → evalE c.Γ a env = some out → GE c W σ H G fps (noeff a) Q out → tE X e σ H Q
def SB (sc : Scope) (fn : Str → Bool) (e : Expr) (a : CB) : Prop := ∀ X W, CtxOk c X W N sc fn → ∀ env σ H G fps out Q, EnvR c.K env σ H G fps → evalT c.Γ a env = some out → GT c W σ H G fps (noeffb a) Q out → tT X e σ H Q
def SDs (sc : Scope) (fn : Str → Bool) (l : List Expr) (a : CEs) : Prop := ∀ X W, CtxOk c X W N sc fn → ∀ env σ H G fps out Q, EnvR c.K env σ H G fps → evalDs c.Γ a env = some out → GD c W σ H G fps (noeffs a) Q out → tA X l σ H Q
def SPs (sc : Scope) (fn : Str → Bool) (l : List Expr) (a : CEs) : Prop := ∀ X W, CtxOk c X W N sc fn → ∀ env σ H G fps out Q, EnvR c.K env σ H G fps → evalPs c.Γ a env = some out → GP c W σ H G fps (noeffs a) Q out → tA X l σ H Q
end
section
variable {c : Ct} {N : List Str} {sc : Scope} {fn : Str → Bool}
theorem CtxOk.gl {X : Cx} {W : WX} (ok : CtxOk c X W N sc fn) {x : Str} (h : glB sc x = true) : Gl X x := by
  have := glB_ok h
  show X.env.scope.names.lookup x = _
  rw [ok.eS]; exact this
theorem CtxOk.vis {X : Cx} {W : WX} (ok : CtxOk c X W N sc fn) {x : Str} (h : visB sc x = true) : Vis X.env.scope x := by
  rw [ok.eS]; exact visB_ok h
theorem CtxOk.bl {X : Cx} {W : WX} (ok : CtxOk c X W N sc fn) {x : Str} (h : x ∈ bltNames) : X.mg x = none := by
  rw [ok.eM]; exact ok.blt x h
theorem CtxOk.hu2 {X : Cx} {W : WX} (ok : CtxOk c X W N sc fn) : X.A.units + 65 < cLine := by have := ok.rm.rm.un; omega
theorem CtxOk.hu {X : Cx} {W : WX} (ok : CtxOk c X W N sc fn) : X.A.units + 64 < cLine := ok.rm.rm.units
theorem same_refl (H : Hp) : Same H H := fun _ _ h => h
/-- a name -/
theorem tE_var {X : Cx} {W : WX} (ok : CtxOk c X W N sc fn) {i : Nat} {x : Str} {p : Pos} (h : (decide (N[i]? = some x) && visB sc x && nmB x) = true) {σ : L2.St} {H : Hp} {Q : VK} {v : V} (hv : σ[i]? = some (some v)) (q : Q v H) : tE X (.Name x p) σ H Q := by
  simp only [Bool.and_eq_true, decide_eq_true_eq] at h
  obtain ⟨⟨h1, h2⟩, h3⟩ := h
  obtain ⟨n1, n2⟩ := nmB_ok h3
  exact tE_of (pe_var (by rw [ok.eN]; exact h1) (ok.vis h2) n1 n2) ⟨v, hv, q⟩
theorem se_lit {d : D} {e : Expr} (h : mE N (.lit d) sc fn e = true) : SE c N sc fn e (.lit d) := by
  intro X W ok env σ H G fps out Q E he hq
  simp only [evalE_lit] at he
  cases he
  simp only [mE_lit] at h
  split at h
  · have h := of_decide_eq_true h
    subst h
    exact tE_of pe_int (hq _ H G fps [] (Aft.refl E) ⟨rfl, .int _⟩ fun _ => same_refl H)
  · have h := of_decide_eq_true h
    subst h
    exact tE_of pe_bl (hq _ H G fps [] (Aft.refl E) ⟨rfl, .bl _⟩ fun _ => same_refl H)
  · have h := of_decide_eq_true h
    subst h
    exact tE_of pe_str (hq _ H G fps [] (Aft.refl E) ⟨rfl, .str _⟩ fun _ => same_refl H)
  · exact tE_of pe_non (hq _ H G fps [] (Aft.refl E) ⟨rfl, .non⟩ fun _ => same_refl H)
  · cases h
theorem se_var {i : Nat} {e : Expr} (h : mE N (.var i) sc fn e = true) : SE c N sc fn e (.var i) := by
  intro X W ok env σ H G fps out Q E he hq
  simp only [evalE_var] at he
  split at he
  · rename_i o ho
    cases he
    simp only [mE_var] at h
    split at h
    · obtain ⟨v, hv, r⟩ := E.rep i o ho
      exact tE_var ok h hv (hq v H G fps [] (Aft.refl E) ⟨rfl, hv⟩ fun _ => same_refl H)
    · cases h
  · cases he
theorem se_glob {y : Str} {e : Expr} (h : mE N (.glob y) sc fn e = true) : SE c N sc fn e (.glob y) := by
  intro X W ok env σ H G fps out Q E he hq
  simp only [evalE_glob] at he
  split at he
  · rename_i d hd
    cases he
    simp only [mE_glob] at h
    split at h
    · simp only [Bool.and_eq_true, decide_eq_true_eq] at h
      obtain ⟨⟨rfl, h2⟩, h3⟩ := h
      obtain ⟨n1, u, v, e1, e2, e3⟩ := ok.glob _ _ hd
      exact tE_of (pe_glob (ok.gl h2) (by rw [ok.eM]; exact e1) e2 n1) (hq v H G fps [] (Aft.refl E) ⟨rfl, e3 H G⟩ fun _ => same_refl H)
    · cases h
  · cases he
/-! ### rows of arguments -/
theorem sds_nil : SDs c N sc fn [] .nil := by
  intro X W ok env σ H G fps out Q E he hq
  simp only [evalDs_nil] at he
  cases he
  exact tA_of pa_nil (hq [] H G fps (Aft.refl E) .nil fun _ => same_refl H)
theorem sds_cons {e : Expr} {l : List Expr} {a : CE} {as : CEs} (hs : isStar e = false) (h1 : SE c N sc fn e a) (h2 : SDs c N sc fn l as) : SDs c N sc fn (e :: l) (.cons a as) := by
  intro X W ok env σ H G fps out Q E he hq
  simp only [evalDs_cons] at he
  refine tA_of (pa_cons (peS X e) (paS X l) (star_ok hs l X.env)) ?_
  rcases bnd_ways he with ⟨p, env1, e1, he⟩ | ⟨y, env1, e1, rfl⟩
  · refine h1 X W ok env σ H G fps _ _ E e1 fun v H1 G1 fps1 fpt1 a1 r1 s1 => ?_
    rcases bnd_ways he with ⟨d, env2, e2, he⟩ | ⟨y, env2, e2, rfl⟩
    · obtain ⟨G2, fps2, a2, r2⟩ := frz_ok a1 r1 e2
      rcases bnd_ways he with ⟨ds, env3, e3, he⟩ | ⟨y, env3, e3, rfl⟩
      · cases he
        refine h2 X W ok env2 σ H1 G2 fps2 _ _ a2.E e3 fun vs H3 G3 fps3 a3 r3 s3 => ?_
        refine hq (v :: vs) H3 G3 fps3 (a2.next a3) (.cons (a2.frame a3 r2) r3) fun hn => ?_
        simp only [noeffs_cons, Bool.and_eq_true] at hn
        exact (s1 hn.1).trans (s3 hn.2)
      · exact h2 X W ok env2 σ H1 G2 fps2 _ _ a2.E e3 fun cls d H3 G3 fps3 a3 x3 => hq cls d H3 G3 fps3 (a2.next a3) x3
    · exact (frz_not e2).elim
  · exact h1 X W ok env σ H G fps _ _ E e1 fun cls d H1 G1 fps1 a1 x1 => hq cls d H1 G1 fps1 a1 x1
theorem sps_nil : SPs c N sc fn [] .nil := by
  intro X W ok env σ H G fps out Q E he hq
  simp only [evalPs_nil] at he
  cases he
  exact tA_of pa_nil (hq [] H G fps [] (Aft.refl E) .nil fun _ => same_refl H)
theorem sps_cons {e : Expr} {l : List Expr} {a : CE} {as : CEs} (hs : isStar e = false) (h1 : SE c N sc fn e a) (h2 : SPs c N sc fn l as) : SPs c N sc fn (e :: l) (.cons a as) := by
  intro X W ok env σ H G fps out Q E he hq
  simp only [evalPs_cons] at he
  refine tA_of (pa_cons (peS X e) (paS X l) (star_ok hs l X.env)) ?_
  rcases bnd_ways he with ⟨p, env1, e1, he⟩ | ⟨y, env1, e1, rfl⟩
  · refine h1 X W ok env σ H G fps _ _ E e1 fun v H1 G1 fps1 fpt1 a1 r1 s1 => ?_
    rcases bnd_ways he with ⟨ps, env3, e3, he⟩ | ⟨y, env3, e3, rfl⟩
    · split at he
      · rename_i hst
        cases he
        refine h2 X W ok env1 σ H1 G1 fps1 _ _ a1.E e3 fun vs H3 G3 fps3 fpt3 a3 r3 s3 => ?_
        obtain ⟨r1', a1'⟩ := r1.next a1 a3 hst s3
        refine hq (v :: vs) H3 G3 fps3 _ (a1'.app (a1.next a3)) (.cons r1' r3) fun hn => ?_
        simp only [noeffs_cons, Bool.and_eq_true] at hn
        exact (s1 hn.1).trans (s3 hn.2)
      · cases he
    · exact h2 X W ok env1 σ H1 G1 fps1 _ _ a1.E e3 fun cls d H3 G3 fps3 a3 x3 => hq cls d H3 G3 fps3 (a1.next a3) x3
  · exact h1 X W ok env σ H G fps _ _ E e1 fun cls d H1 G1 fps1 a1 x1 => hq cls d H1 G1 fps1 a1 x1
/-! ### displays -/
theorem se_tup {es : CEs} {l : List Expr} {k : Nat} {p : Pos} (h : SDs c N sc fn l es) : SE c N sc fn (.Tuple l k p) (.tup es) := by
  intro X W ok env σ H G fps out Q E he hq
  simp only [evalE_tup] at he
  refine tE_of (pe_tup (paS X l)) ?_
  rcases bnd_ways he with ⟨ds, env1, e1, he⟩ | ⟨y, env1, e1, rfl⟩
  · split at he
    · rename_i hl
      cases he
      refine h X W ok env σ H G fps _ _ E e1 fun vs H1 G1 fps1 a1 r1 s1 => ?_
      refine ⟨by rw [dpAll_length r1, ← lim_eq]; exact hl, fun p hp => ?_⟩
      exact (resO_of (o := .fz (.tuple ds)) a1.E fun v H2 fp a2 r2 s2 => hq v H2 G1 fps1 fp (a1.next a2) r2 fun hn => (s1 hn).trans s2).newT r1 hp
    · cases he
  · exact h X W ok env σ H G fps _ _ E e1 fun cls d H1 G1 fps1 a1 x1 => hq cls d H1 G1 fps1 a1 x1
theorem se_tups {a : CE} {es : CEs} {x : Expr} {l : List Expr} {k : Nat} {p p2 : Pos} (h1 : SE c N sc fn x a) (h : SDs c N sc fn l es) : SE c N sc fn (.Tuple (.Starred x p2 :: l) k p) (.tups a es) := by
  intro X W ok env σ H G fps out Q E he hq
  simp only [evalE_tups] at he
  refine tE_of (pe_tup (StX.pa_star (peS X x) (paS X l))) ?_
  rcases bnd_ways he with ⟨q, env1, e1, he⟩ | ⟨y, env1, e1, rfl⟩
  · refine h1 X W ok env σ H G fps _ _ E e1 fun v H1 G1 fps1 fpt1 a1 r1 s1 => ?_
    rcases bnd_ways he with ⟨d, env2, e2, he⟩ | ⟨y, env2, e2, rfl⟩
    · obtain ⟨G2, fps2, a2, r2⟩ := frz_ok a1 r1 e2
      split at he
      · rename_i xs hrow
        obtain ⟨a0, ys, rfl, hs, hr⟩ := rp_row (Rp.s r2) hrow
        refine ⟨a0, ys, rfl, by rw [ok.eK]; exact hs.symm, ?_⟩
        rcases bnd_ways he with ⟨ds, env3, e3, he⟩ | ⟨y, env3, e3, rfl⟩
        · split at he
          · rename_i hl
            cases he
            refine h X W ok env2 σ H1 G2 fps2 _ _ a2.E e3 fun vs H3 G3 fps3 a3 r3 s3 => ?_
            refine ⟨by rw [List.length_append, dpAll_length hr, dpAll_length r3, ← lim_eq]; exact hl, fun p hp => ?_⟩
            exact (resO_of (o := .fz (.tuple (xs ++ ds))) a3.E fun v H4 fp a4 r4 s4 => hq v H4 G3 fps3 fp ((a2.next a3).next a4) r4 fun hn => by
              simp only [noeff_tups, Bool.and_eq_true] at hn
              exact ((s1 hn.1).trans (s3 hn.2)).trans s4).newT (dpAll_append (a2.frames a3 hr) r3) hp
          · cases he
        · exact h X W ok env2 σ H1 G2 fps2 _ _ a2.E e3 fun cls d H3 G3 fps3 a3 x3 => hq cls d H3 G3 fps3 (a2.next a3) x3
      · cases he
    · exact (frz_not e2).elim
  · exact h1 X W ok env σ H G fps _ _ E e1 fun cls d H1 G1 fps1 a1 x1 => hq cls d H1 G1 fps1 a1 x1
theorem se_lst {es : CEs} {l : List Expr} {p : Pos} (h : SDs c N sc fn l es) : SE c N sc fn (.List l p) (.lst es) := by
  intro X W ok env σ H G fps out Q E he hq
  simp only [evalE_lst] at he
  refine tE_of (pe_lst (paS X l)) ?_
  rcases bnd_ways he with ⟨ds, env1, e1, he⟩ | ⟨y, env1, e1, rfl⟩
  · split at he
    · rename_i hl
      cases he
      refine h X W ok env σ H G fps _ _ E e1 fun vs H1 G1 fps1 a1 r1 s1 => ?_
      refine ⟨by rw [dpAll_length r1, ← lim_eq]; exact hl, fun p hp => ?_⟩
      exact (resO_of (o := .lst ds) a1.E fun v H2 fp a2 r2 s2 => hq v H2 G1 fps1 fp (a1.next a2) r2 fun hn => (s1 hn).trans s2).newL a1.E.gh r1 hp
    · cases he
  · exact h X W ok env σ H G fps _ _ E e1 fun cls d H1 G1 fps1 a1 x1 => hq cls d H1 G1 fps1 a1 x1
/-! ### operators -/
theorem opAny {X : Cx} {f : Value → Value → Sem Value} : OpR X f (fun x y H Q => ∃ r, OpR X f r ∧ r x y H Q) := fun pins s σ H x y v u Q I rx ry ⟨r, ho, q⟩ => ho pins s σ H x y v u Q I rx ry q
theorem ixAny {X : Cx} : IxR X (fun x y H Q => ∃ r, IxR X r ∧ r x y H Q) := fun value slice pins s σ H x y v u Q I rx ry ⟨r, ho, q⟩ hs => ho value slice pins s σ H x y v u Q I rx ry q hs
theorem slAny {X : Cx} : SlR X (fun x lo hi H Q => ∃ r, SlR X r ∧ r x lo hi H Q) := fun pins s σ H x v vl vu lo hi sl Q I rx hs pl pu ⟨r, ho, q⟩ => ho pins s σ H x v vl vu lo hi sl Q I rx hs pl pu q
theorem callAny {X : Cx} {f : Value} : CallR X f (fun xs H Q => ∃ r, CallR X f r ∧ r xs H Q) := fun pins s σ H x u Q I rx ⟨r, ho, q⟩ => ho pins s σ H x u Q I rx q
theorem unAny {X : Cx} {f : Value → Sem Value} : UnR X f (fun x H Q => ∃ r, UnR X f r ∧ r x H Q) := fun pins s σ H x v Q I rx ⟨r, ho, q⟩ => ho pins s σ H x v Q I rx q
theorem se_bin {k : BinK} {a b : CE} {x y : Expr} {p : Pos} (h1 : SE c N sc fn x a) (h2 : SE c N sc fn y b) : SE c N sc fn (.BinOp x (binOp k) y p) (.bin k a b) := by
  intro X W ok env σ H G fps out Q E he hq
  simp only [evalE_bin] at he
  refine tE_of (pe_op opAny (peS X x) (peS X y)) ?_
  rcases bnd_ways he with ⟨p1, env1, e1, he⟩ | ⟨z, env1, e1, rfl⟩
  · refine h1 X W ok env σ H G fps _ _ E e1 fun vx H1 G1 fps1 fpt1 a1 r1 s1 => ?_
    rcases bnd_ways he with ⟨p2, env2, e2, he⟩ | ⟨z, env2, e2, rfl⟩
    · split at he
      · rename_i hst
        split at he
        · rename_i dx dy f1 f2
          cases hb : binO k dx dy with
          | none => rw [hb] at he; cases he
          | some o =>
            rw [hb] at he
            cases he
            refine h2 X W ok env1 σ H1 G1 fps1 _ _ a1.E e2 fun vy H2 G2 fps2 fpt2 a2 r2 s2 => ?_
            obtain ⟨r1', a1'⟩ := r1.next a1 a2 hst s2
            refine bin_ok k a2.E.gh (ok.eK ▸ pr_flat a2.E r1' f1) (ok.eK ▸ pr_flat a2.E r2 f2) hb ?_
            rw [ok.eK]
            exact resO_of a2.E fun v H3 fp a3 r3 s3 => hq v H3 G2 fps2 fp ((a1.next a2).next a3) r3 fun hn => by
              simp only [noeff_bin, Bool.and_eq_true] at hn
              exact (s1 hn.1).trans ((s2 hn.2).trans s3)
        · cases he
      · cases he
    · exact h2 X W ok env1 σ H1 G1 fps1 _ _ a1.E e2 fun cls d H3 G3 fps3 a3 x3 => hq cls d H3 G3 fps3 (a1.next a3) x3
  · exact h1 X W ok env σ H G fps _ _ E e1 fun cls d H1 G1 fps1 a1 x1 => hq cls d H1 G1 fps1 a1 x1
/-- two operands, then a comparison -/
theorem cmp_two {k : CmpK} {a b : CE} {x y : Expr} {X : Cx} {W : WX} (h1 : SE c N sc fn x a) (h2 : SE c N sc fn y b) (ok : CtxOk c X W N sc fn) {env : Env} {σ : L2.St} {H : Hp} {G : Addr → Prop} {fps : Fs} {out : Out P} {Q : VK} (E : EnvR c.K env σ H G fps)
    (he : evalE c.Γ (.cmp k a b) env = some out) (hq : GE c W σ H G fps (noeff (.cmp k a b)) Q out) : tOp (fun x y H Q => ∃ r, OpR X (compareOp (cmpOp k)) r ∧ r x y H Q) (tE X x) (tE X y) σ H Q := by
  simp only [evalE_cmp] at he
  rcases bnd_ways he with ⟨p1, env1, e1, he⟩ | ⟨z, env1, e1, rfl⟩
  · refine h1 X W ok env σ H G fps _ _ E e1 fun vx H1 G1 fps1 fpt1 a1 r1 s1 => ?_
    rcases bnd_ways he with ⟨p2, env2, e2, he⟩ | ⟨z, env2, e2, rfl⟩
    · split at he
      · rename_i hst
        split at he
        · rename_i dx dy f1 f2
          cases hb : cmpO k dx dy with
          | none => rw [hb] at he; cases he
          | some o =>
            rw [hb] at he
            cases he
            refine h2 X W ok env1 σ H1 G1 fps1 _ _ a1.E e2 fun vy H2 G2 fps2 fpt2 a2 r2 s2 => ?_
            obtain ⟨r1', a1'⟩ := r1.next a1 a2 hst s2
            refine cmp_ok ok.hu2 k (ok.eK ▸ pr_flat a2.E r1' f1) (ok.eK ▸ pr_flat a2.E r2 f2) hb ?_
            exact hq _ H2 G2 fps2 [] (a1.next a2).drop ⟨rfl, .bl _⟩ fun hn => by
              simp only [noeff_cmp, Bool.and_eq_true] at hn
              exact (s1 hn.1).trans (s2 hn.2)
        · cases he
      · cases he
    · exact h2 X W ok env1 σ H1 G1 fps1 _ _ a1.E e2 fun cls d H3 G3 fps3 a3 x3 => hq cls d H3 G3 fps3 (a1.next a3) x3
  · exact h1 X W ok env σ H G fps _ _ E e1 fun cls d H1 G1 fps1 a1 x1 => hq cls d H1 G1 fps1 a1 x1
theorem se_cmp {k : CmpK} {a b : CE} {x y : Expr} {p : Pos} (hm : behindInMarks (cmpOp k) y = false) (h1 : SE c N sc fn x a) (h2 : SE c N sc fn y b) : SE c N sc fn (.Compare x [cmpOp k] [y] p) (.cmp k a b) :=
  fun X W ok env σ H G fps out Q E he hq => tE_of (pe_cmpR opAny (peS X x) (peS X y) hm) (cmp_two h1 h2 ok E he hq)
/-- what a comparison gives is a truth value -/
theorem cmp_bool {k : CmpK} {a b : CE} {env : Env} {p : P} {env' : Env} (he : evalE c.Γ (.cmp k a b) env = some (.ok p env')) : ∃ b, p = .val (.fz (.bool b)) := by
  simp only [evalE_cmp] at he
  rcases bnd_ways he with ⟨p1, env1, e1, he⟩ | ⟨z, env1, e1, h⟩
  · rcases bnd_ways he with ⟨p2, env2, e2, he⟩ | ⟨z, env2, e2, h⟩
    · split at he
      · split at he
        · rename_i dx dy f1 f2
          cases hb : cmpO k dx dy with
          | none => rw [hb] at he; cases he
          | some o => rw [hb] at he; cases he; exact ⟨_, rfl⟩
        · cases he
      · cases he
    · cases h
  · cases h
/-- the goal of a test from that of an expression -/
theorem GT.of {W : WX} {σ : L2.St} {H : Hp} {G : Addr → Prop} {fps : Fs} {ne : Bool} {Q : Bool → Hp → Prop} {out : Out Bool} {x : Option (Out P)} (he : bnd x (fun p env => match flatP p env with
    | some d => (truthD d).map fun c => .ok c env
    | none => none) = some out) (hq : GT c W σ H G fps ne Q out) : ∃ o, x = some o ∧ GE c W σ H G fps ne (fun v H' => ∃ d G', RpS c.K H' G' v d ∧ ∃ k, truthD d = some k ∧ Q k H') o := by
  rcases bnd_ways he with ⟨p1, env1, e1, he⟩ | ⟨z, env1, e1, rfl⟩
  · refine ⟨_, e1, fun v H1 G1 fps1 fpt1 a1 r1 s1 => ?_⟩
    split at he
    · rename_i d hd
      cases ht : truthD d with
      | none => rw [ht] at he; cases he
      | some k =>
        rw [ht] at he
        cases he
        exact ⟨d, G1, pr_flat a1.E r1 hd, k, ht, hq H1 G1 fps1 a1.drop s1⟩
    · cases he
  · exact ⟨_, e1, hq⟩
/-- a test by truth -/
theorem sb_plain {a : CE} {x : Expr} (ht : ∀ env whole, isTrue x env whole = (do let v ← whole; standAt x.pos; holding [v] (truthy v))) (h : SE c N sc fn x a) : SB c N sc fn x (.of a) := by
  intro X W ok env σ H G fps out Q E he hq
  simp only [evalT_of] at he
  obtain ⟨o, e1, hq'⟩ := GT.of he hq
  refine tT_of (pt_truth (peS X x) (ht X.env)) ?_
  have := h X W ok env σ H G fps o _ E e1 hq'
  intro pins s I
  refine thn (this pins s I) fun u s' ⟨v, H', I', rv, d, G', rp, k, hk, q⟩ => ?_
  exact ⟨v, H', I', rv, k, by rw [ok.eK]; exact tru_D rp hk, q⟩
theorem sb_cmp {k : CmpK} {a b : CE} {x y : Expr} {p : Pos} (hm : behindInMarks (cmpOp k) y = false) (h1 : SE c N sc fn x a) (h2 : SE c N sc fn y b) : SB c N sc fn (.Compare x [cmpOp k] [y] p) (.of (.cmp k a b)) := by
  intro X W ok env σ H G fps out Q E he hq
  simp only [evalT_of] at he
  refine tT_of (pt_cmpR opAny (peS X x) (peS X y) hm) ?_
  show tOp _ (tE X x) (tE X y) σ H (fun v H' => ∃ k, v = .bl k ∧ Q k H')
  rcases bnd_ways he with ⟨p1, env1, e1, he⟩ | ⟨z, env1, e1, rfl⟩
  · obtain ⟨b, rfl⟩ := cmp_bool e1
    cases he
    exact cmp_two h1 h2 ok E e1 fun v H1 G1 fps1 fpt1 a1 r1 s1 => by
      obtain ⟨_, r⟩ := r1
      have := rbool r
      subst this
      exact ⟨_, rfl, hq H1 G1 fps1 a1.drop s1⟩
  · exact cmp_two h1 h2 ok E e1 hq
end
end NW
end
section
set_option linter.all false
set_option maxRecDepth 100000
set_option maxHeartbeats 1000000
/-! NWh: expressions, further cases -/
namespace NW
open PySem L2 PyProof.Rows
section
variable {c : Ct} {N : List Str} {sc : Scope} {fn : Str → Bool}
theorem lastMarks_ok {o o' : CmpOp} {m r : Expr} (h : behindInMarks o' r = false) : lastMarks [o, o'] [m, r] = false := h
theorem chain_ok {k k' : CmpK} {a b d : CE} {x y z : Expr} {X : Cx} {W : WX} (h1 : SE c N sc fn x a) (h2 : SE c N sc fn y b) (h3 : SE c N sc fn z d) (ok : CtxOk c X W N sc fn) {env : Env} {σ : L2.St} {H : Hp} {G : Addr → Prop} {fps : Fs} {out : Out P} {Q : VK} (E : EnvR c.K env σ H G fps)
    (he : evalE c.Γ (.chain k k' a b d) env = some out) (hq : GE c W σ H G fps (noeff (.chain k k' a b d)) Q out) :
    tChain (fun x y H Q => ∃ r, OpR X (compareOp (cmpOp k)) r ∧ r x y H Q) (fun x y H Q => ∃ r, OpR X (compareOp (cmpOp k')) r ∧ r x y H Q) (tE X x) (tE X y) (tE X z) σ H Q := by
  simp only [evalE_chain] at he
  rcases bnd_ways he with ⟨p1, env1, e1, he⟩ | ⟨z, env1, e1, rfl⟩
  · refine h1 X W ok env σ H G fps _ _ E e1 fun vx H1 G1 fps1 fpt1 a1 r1 s1 => ?_
    rcases bnd_ways he with ⟨p2, env2, e2, he⟩ | ⟨z, env2, e2, rfl⟩
    · split at he
      · rename_i hst
        simp only [Bool.and_eq_true] at hst
        split at he
        · rename_i dx dy f1 f2
          refine h2 X W ok env1 σ H1 G1 fps1 _ _ a1.E e2 fun vy H2 G2 fps2 fpt2 a2 r2 s2 => ?_
          obtain ⟨r1', a1'⟩ := r1.next a1 a2 hst.1 s2
          cases hb : cmpO k dx dy with
          | none => rw [hb] at he; cases he
          | some b1 =>
            rw [hb] at he
            refine cmp_ok ok.hu2 k (ok.eK ▸ pr_flat a2.E r1' f1) (ok.eK ▸ pr_flat a2.E r2 f2) hb ⟨b1, rfl, ?_⟩
            cases b1 with
            | false =>
              cases he
              rw [if_neg Bool.false_ne_true]
              exact hq _ H2 G2 fps2 [] (a1.next a2).drop ⟨rfl, .bl _⟩ fun hn => by
                simp only [noeff_chain, Bool.and_eq_true] at hn
                exact (s1 hn.1.1).trans (s2 hn.1.2)
            | true =>
              rw [if_pos rfl]
              simp only at he
              rcases bnd_ways he with ⟨p3, env3, e3, he⟩ | ⟨z, env3, e3, rfl⟩
              · split at he
                · rename_i dy' dz f3 f4
                  cases hb2 : cmpO k' dy' dz with
                  | none => rw [hb2] at he; cases he
                  | some b2 =>
                    rw [hb2] at he
                    cases he
                    refine h3 X W ok env2 σ H2 G2 fps2 _ _ a2.E e3 fun vz H3 G3 fps3 fpt3 a3 r3 s3 => ?_
                    obtain ⟨r2', a2'⟩ := r2.next a2 a3 hst.2 s3
                    refine cmp_ok ok.hu2 k' (ok.eK ▸ pr_flat a3.E r2' f3) (ok.eK ▸ pr_flat a3.E r3 f4) hb2 ?_
                    exact hq _ H3 G3 fps3 [] ((a1.next a2).next a3).drop ⟨rfl, .bl _⟩ fun hn => by
                      simp only [noeff_chain, Bool.and_eq_true] at hn
                      exact (s1 hn.1.1).trans ((s2 hn.1.2).trans (s3 hn.2))
                · cases he
              · exact h3 X W ok env2 σ H2 G2 fps2 _ _ a2.E e3 fun cls d H3 G3 fps3 a3 x3 => hq cls d H3 G3 fps3 ((a1.next a2).next a3) x3
        · cases he
      · cases he
    · exact h2 X W ok env1 σ H1 G1 fps1 _ _ a1.E e2 fun cls d H3 G3 fps3 a3 x3 => hq cls d H3 G3 fps3 (a1.next a3) x3
  · exact h1 X W ok env σ H G fps _ _ E e1 fun cls d H1 G1 fps1 a1 x1 => hq cls d H1 G1 fps1 a1 x1
theorem marks_of {k : CmpK} (h1 : k ≠ .isin) (h2 : k ≠ .notin) (r : Expr) : behindInMarks (cmpOp k) r = false := by
  refine nomark r ?_ ?_ <;> cases k <;> first | decide | exact absurd rfl h1 | exact absurd rfl h2
theorem se_chain {k k' : CmpK} {a b d : CE} {x y z : Expr} {p : Pos} (i1 : k' ≠ .isin) (i2 : k' ≠ .notin) (h1 : SE c N sc fn x a) (h2 : SE c N sc fn y b) (h3 : SE c N sc fn z d) : SE c N sc fn (.Compare x [cmpOp k, cmpOp k'] [y, z] p) (.chain k k' a b d) :=
  fun X W ok env σ H G fps out Q E he hq => tE_of (pe_chain opAny opAny (peS X x) (peS X y) (peS X z) (lastMarks_ok (marks_of i1 i2 z))) (chain_ok h1 h2 h3 ok E he hq)
theorem chain_bool {k k' : CmpK} {a b d : CE} {env : Env} {p : P} {env' : Env} (he : evalE c.Γ (.chain k k' a b d) env = some (.ok p env')) : ∃ b, p = .val (.fz (.bool b)) := by
  simp only [evalE_chain] at he
  rcases bnd_ways he with ⟨p1, env1, e1, he⟩ | ⟨z, env1, e1, h⟩
  · rcases bnd_ways he with ⟨p2, env2, e2, he⟩ | ⟨z, env2, e2, h⟩
    · split at he
      · split at he
        · rename_i dx dy f1 f2
          cases hb : cmpO k dx dy with
          | none => rw [hb] at he; cases he
          | some o =>
            rw [hb] at he
            cases o with
            | false => cases he; exact ⟨_, rfl⟩
            | true =>
              simp only at he
              rcases bnd_ways he with ⟨p3, env3, e3, he⟩ | ⟨z, env3, e3, h⟩
              · split at he
                · rename_i dy' dz f3 f4
                  cases hb2 : cmpO k' dy' dz with
                  | none => rw [hb2] at he; cases he
                  | some b2 => rw [hb2] at he; cases he; exact ⟨_, rfl⟩
                · cases he
              · cases h
        · cases he
      · cases he
    · cases h
  · cases h
theorem sb_chain {k k' : CmpK} {a b d : CE} {x y z : Expr} {p : Pos} (i1 : k' ≠ .isin) (i2 : k' ≠ .notin) (h1 : SE c N sc fn x a) (h2 : SE c N sc fn y b) (h3 : SE c N sc fn z d) : SB c N sc fn (.Compare x [cmpOp k, cmpOp k'] [y, z] p) (.of (.chain k k' a b d)) := by
  intro X W ok env σ H G fps out Q E he hq
  simp only [evalT_of] at he
  refine tT_of (pt_chain opAny opAny (peS X x) (peS X y) (peS X z) (lastMarks_ok (marks_of i1 i2 z))) ?_
  show tChain _ _ (tE X x) (tE X y) (tE X z) σ H (fun v H' => ∃ k, v = .bl k ∧ Q k H')
  rcases bnd_ways he with ⟨p1, env1, e1, he⟩ | ⟨z, env1, e1, rfl⟩
  · obtain ⟨b, rfl⟩ := chain_bool e1
    cases he
    exact chain_ok h1 h2 h3 ok E e1 fun v H1 G1 fps1 fpt1 a1 r1 s1 => by
      obtain ⟨_, r⟩ := r1
      have := rbool r
      subst this
      exact ⟨_, rfl, hq H1 G1 fps1 a1.drop s1⟩
  · exact chain_ok h1 h2 h3 ok E e1 hq
/-! ### is None -/
theorem dp_non {K : PySem.W.Frag} {H : Hp} {v : V} {d : D} (h : Dp K H v d) : decide (v = .non) = isNone d := by
  cases h <;> simp [isNone]
theorem isN_ok {a : CE} {x : Expr} {X : Cx} {W : WX} (h1 : SE c N sc fn x a) (ok : CtxOk c X W N sc fn) {env : Env} {σ : L2.St} {H : Hp} {G : Addr → Prop} {fps : Fs} {out : Out P} {Q : VK} (E : EnvR c.K env σ H G fps)
    (he : evalE c.Γ (.isN a) env = some out) (hq : GE c W σ H G fps (noeff (.isN a)) Q out) : tIsN (tE X x) σ H Q := by
  simp only [evalE_isN] at he
  rcases bnd_ways he with ⟨p1, env1, e1, he⟩ | ⟨z, env1, e1, rfl⟩
  · refine h1 X W ok env σ H G fps _ _ E e1 fun vx H1 G1 fps1 fpt1 a1 r1 s1 => ?_
    split at he
    · rename_i d f1
      cases he
      rw [dp_non (pr_flat a1.E r1 f1).dp]
      exact hq _ H1 G1 fps1 [] a1.drop ⟨rfl, .bl _⟩ s1
    · cases he
  · exact h1 X W ok env σ H G fps _ _ E e1 fun cls d H1 G1 fps1 a1 x1 => hq cls d H1 G1 fps1 a1 x1
theorem notN_ok {a : CE} {x : Expr} {X : Cx} {W : WX} (h1 : SE c N sc fn x a) (ok : CtxOk c X W N sc fn) {env : Env} {σ : L2.St} {H : Hp} {G : Addr → Prop} {fps : Fs} {out : Out P} {Q : VK} (E : EnvR c.K env σ H G fps)
    (he : evalE c.Γ (.notN a) env = some out) (hq : GE c W σ H G fps (noeff (.notN a)) Q out) : tNotN (tE X x) σ H Q := by
  simp only [evalE_notN] at he
  rcases bnd_ways he with ⟨p1, env1, e1, he⟩ | ⟨z, env1, e1, rfl⟩
  · refine h1 X W ok env σ H G fps _ _ E e1 fun vx H1 G1 fps1 fpt1 a1 r1 s1 => ?_
    split at he
    · rename_i d f1
      cases he
      rw [dp_non (pr_flat a1.E r1 f1).dp]
      exact hq _ H1 G1 fps1 [] a1.drop ⟨rfl, .bl _⟩ s1
    · cases he
  · exact h1 X W ok env σ H G fps _ _ E e1 fun cls d H1 G1 fps1 a1 x1 => hq cls d H1 G1 fps1 a1 x1
theorem se_isN {a : CE} {x : Expr} {j : Nat} {p p' : Pos} (h1 : SE c N sc fn x a) : SE c N sc fn (.Compare x [.Is] [.Constant .none j p'] p) (.isN a) :=
  fun X W ok env σ H G fps out Q E he hq => tE_of (pe_cmp (pc_isN (peS X x)) rfl) (isN_ok h1 ok E he hq)
theorem se_notN {a : CE} {x : Expr} {j : Nat} {p p' : Pos} (h1 : SE c N sc fn x a) : SE c N sc fn (.Compare x [.IsNot] [.Constant .none j p'] p) (.notN a) :=
  fun X W ok env σ H G fps out Q E he hq => tE_of (pe_cmp (pc_notN (peS X x)) rfl) (notN_ok h1 ok E he hq)
theorem sb_isN {a : CE} {x : Expr} {j : Nat} {p p' : Pos} (h1 : SE c N sc fn x a) : SB c N sc fn (.Compare x [.Is] [.Constant .none j p'] p) (.of (.isN a)) := by
  intro X W ok env σ H G fps out Q E he hq
  simp only [evalT_of] at he
  refine tT_of (pt_cmp (pc_isN (peS X x)) rfl) ?_
  show tIsN (tE X x) σ H (fun v H' => ∃ k, v = .bl k ∧ Q k H')
  rcases bnd_ways he with ⟨p1, env1, e1, he⟩ | ⟨z, env1, e1, rfl⟩
  · have hb : ∃ b, p1 = .val (.fz (.bool b)) := by
      simp only [evalE_isN] at e1
      rcases bnd_ways e1 with ⟨p1, env1, e1, he⟩ | ⟨z, env1, e1, h⟩
      · split at he
        · cases he; exact ⟨_, rfl⟩
        · cases he
      · cases h
    obtain ⟨b, rfl⟩ := hb
    cases he
    exact isN_ok h1 ok E e1 fun v H1 G1 fps1 fpt1 a1 r1 s1 => by
      obtain ⟨_, r⟩ := r1
      have := rbool r
      subst this
      exact ⟨_, rfl, hq H1 G1 fps1 a1.drop s1⟩
  · exact isN_ok h1 ok E e1 hq
theorem sb_notN {a : CE} {x : Expr} {j : Nat} {p p' : Pos} (h1 : SE c N sc fn x a) : SB c N sc fn (.Compare x [.IsNot] [.Constant .none j p'] p) (.of (.notN a)) := by
  intro X W ok env σ H G fps out Q E he hq
  simp only [evalT_of] at he
  refine tT_of (pt_cmp (pc_notN (peS X x)) rfl) ?_
  show tNotN (tE X x) σ H (fun v H' => ∃ k, v = .bl k ∧ Q k H')
  rcases bnd_ways he with ⟨p1, env1, e1, he⟩ | ⟨z, env1, e1, rfl⟩
  · have hb : ∃ b, p1 = .val (.fz (.bool b)) := by
      simp only [evalE_notN] at e1
      rcases bnd_ways e1 with ⟨p1, env1, e1, he⟩ | ⟨z, env1, e1, h⟩
      · split at he
        · cases he; exact ⟨_, rfl⟩
        · cases he
      · cases h
    obtain ⟨b, rfl⟩ := hb
    cases he
    exact notN_ok h1 ok E e1 fun v H1 G1 fps1 fpt1 a1 r1 s1 => by
      obtain ⟨_, r⟩ := r1
      have := rbool r
      subst this
      exact ⟨_, rfl, hq H1 G1 fps1 a1.drop s1⟩
  · exact notN_ok h1 ok E e1 hq
/-! ### and, or, not -/
theorem and_ok {a b : CE} {x : Expr} {X : Cx} {W : WX} {t2 : TE} (h1 : SE c N sc fn x a) (ok : CtxOk c X W N sc fn) {env : Env} {σ : L2.St} {H : Hp} {G : Addr → Prop} {fps : Fs} {out : Out P} {Q : VK} (E : EnvR c.K env σ H G fps)
    (h2 : ∀ env σ H G fps out Q, EnvR c.K env σ H G fps → evalE c.Γ b env = some out → GE c W σ H G fps (noeff b) Q out → t2 σ H Q)
    (he : evalE c.Γ (.and a b) env = some out) (hq : GE c W σ H G fps (noeff (.and a b)) Q out) : tAndV (tE X x) t2 σ H Q := by
  simp only [evalE_and] at he
  rcases bnd_ways he with ⟨p1, env1, e1, he⟩ | ⟨z, env1, e1, rfl⟩
  · refine h1 X W ok env σ H G fps _ _ E e1 fun vx H1 G1 fps1 fpt1 a1 r1 s1 => ?_
    split at he
    · rename_i f1
      have := rbool (pr_flat a1.E r1 f1)
      subst this
      refine ⟨true, rfl, ?_⟩
      rw [if_pos rfl]
      refine h2 env1 σ H1 G1 fps1 out Q a1.E he ?_
      cases out with
      | ok p env2 =>
        exact fun v H2 G2 fps2 fpt2 a2 r2 s2 => hq v H2 G2 fps2 fpt2 (a1.next a2) r2 fun hn => by
          simp only [noeff_and, Bool.and_eq_true] at hn
          exact (s1 hn.1).trans (s2 hn.2)
      | exc x env2 => exact fun cls d H2 G2 fps2 a2 x2 => hq cls d H2 G2 fps2 (a1.next a2) x2
    · rename_i f1
      have := rbool (pr_flat a1.E r1 f1)
      subst this
      cases he
      refine ⟨false, rfl, ?_⟩
      rw [if_neg Bool.false_ne_true]
      exact hq _ H1 G1 fps1 [] a1.drop ⟨rfl, .bl _⟩ fun hn => by
        simp only [noeff_and, Bool.and_eq_true] at hn
        exact s1 hn.1
    · cases he
  · exact h1 X W ok env σ H G fps _ _ E e1 fun cls d H1 G1 fps1 a1 x1 => hq cls d H1 G1 fps1 a1 x1
theorem or_ok {a b : CE} {x : Expr} {X : Cx} {W : WX} {t2 : TE} (h1 : SE c N sc fn x a) (ok : CtxOk c X W N sc fn) {env : Env} {σ : L2.St} {H : Hp} {G : Addr → Prop} {fps : Fs} {out : Out P} {Q : VK} (E : EnvR c.K env σ H G fps)
    (h2 : ∀ env σ H G fps out Q, EnvR c.K env σ H G fps → evalE c.Γ b env = some out → GE c W σ H G fps (noeff b) Q out → t2 σ H Q)
    (he : evalE c.Γ (.or a b) env = some out) (hq : GE c W σ H G fps (noeff (.or a b)) Q out) : tOrT X.K (tE X x) t2 σ H Q := by
  simp only [evalE_or] at he
  rcases bnd_ways he with ⟨p1, env1, e1, he⟩ | ⟨z, env1, e1, rfl⟩
  · refine h1 X W ok env σ H G fps _ _ E e1 fun vx H1 G1 fps1 fpt1 a1 r1 s1 => ?_
    have snd (he : evalE c.Γ b env1 = some out) (k : TruV X.K vx H1 false) : ∃ k, TruV X.K vx H1 k ∧ if k = true then Q vx H1 else t2 σ H1 Q := by
      refine ⟨false, k, ?_⟩
      rw [if_neg Bool.false_ne_true]
      refine h2 env1 σ H1 G1 fps1 out Q a1.E he ?_
      cases out with
      | ok p env2 =>
        exact fun v H2 G2 fps2 fpt2 a2 r2 s2 => hq v H2 G2 fps2 fpt2 (a1.next a2) r2 fun hn => by
          simp only [noeff_or, Bool.and_eq_true] at hn
          exact (s1 hn.1).trans (s2 hn.2)
      | exc x env2 => exact fun cls d H2 G2 fps2 a2 x2 => hq cls d H2 G2 fps2 (a1.next a2) x2
    split at he
    · rename_i f1
      have hr := pr_flat a1.E r1 f1
      have := rbool hr
      subst this
      cases he
      refine ⟨true, by rw [ok.eK]; exact tru_D hr rfl, ?_⟩
      rw [if_pos rfl]
      exact hq _ H1 G1 fps1 [] a1.drop ⟨rfl, .bl _⟩ fun hn => by
        simp only [noeff_or, Bool.and_eq_true] at hn
        exact s1 hn.1
    · rename_i f1
      have hr := pr_flat a1.E r1 f1
      exact snd he (by rw [ok.eK]; exact tru_D hr rfl)
    · rename_i f1
      have hr := pr_flat a1.E r1 f1
      cases he
      refine ⟨true, by rw [ok.eK]; exact tru_D hr rfl, ?_⟩
      rw [if_pos rfl]
      exact hq vx H1 G1 fps1 fpt1 a1 r1 fun hn => by
        simp only [noeff_or, Bool.and_eq_true] at hn
        exact s1 hn.1
    · rename_i f1
      have hr := pr_flat a1.E r1 f1
      exact snd he (by rw [ok.eK]; exact tru_D hr rfl)
    · cases he
  · exact h1 X W ok env σ H G fps _ _ E e1 fun cls d H1 G1 fps1 a1 x1 => hq cls d H1 G1 fps1 a1 x1
theorem se_and1 {a b : CE} {x y : Expr} {p : Pos} (h1 : SE c N sc fn x a) (h2 : SE c N sc fn y b) : SE c N sc fn (.BoolOp .And [x, y] p) (.and a b) :=
  fun X W ok env σ H G fps out Q E he hq => tE_of (pe_and (peS X x) (pe_one (peS X y))) (and_ok h1 ok E (h2 X W ok) he hq)
theorem se_and2 {a b : CE} {x y z : Expr} {r : List Expr} {p : Pos} (h1 : SE c N sc fn x a) (h2 : SE c N sc fn (.BoolOp .And (y :: z :: r) p) b) : SE c N sc fn (.BoolOp .And (x :: y :: z :: r) p) (.and a b) :=
  fun X W ok env σ H G fps out Q E he hq => tE_of (pe_and (peS X x) (peS X _)) (and_ok h1 ok E (h2 X W ok) he hq)
theorem se_or1 {a b : CE} {x y : Expr} {p : Pos} (h1 : SE c N sc fn x a) (h2 : SE c N sc fn y b) : SE c N sc fn (.BoolOp .Or [x, y] p) (.or a b) :=
  fun X W ok env σ H G fps out Q E he hq => tE_of (pe_orT (peS X x) (pe_one (peS X y))) (or_ok h1 ok E (h2 X W ok) he hq)
theorem se_or2 {a b : CE} {x y z : Expr} {r : List Expr} {p : Pos} (h1 : SE c N sc fn x a) (h2 : SE c N sc fn (.BoolOp .Or (y :: z :: r) p) b) : SE c N sc fn (.BoolOp .Or (x :: y :: z :: r) p) (.or a b) :=
  fun X W ok env σ H G fps out Q E he hq => tE_of (pe_orT (peS X x) (peS X _)) (or_ok h1 ok E (h2 X W ok) he hq)
theorem se_not {a : CE} {x : Expr} {p : Pos} (h1 : SE c N sc fn x a) : SE c N sc fn (.UnaryOp .Not x p) (.not a) := by
  intro X W ok env σ H G fps out Q E he hq
  simp only [evalE_not] at he
  refine tE_of (pe_not (peS X x)) ?_
  rcases bnd_ways he with ⟨p1, env1, e1, he⟩ | ⟨z, env1, e1, rfl⟩
  · refine h1 X W ok env σ H G fps _ _ E e1 fun vx H1 G1 fps1 fpt1 a1 r1 s1 => ?_
    split at he
    · rename_i b f1
      cases he
      have := rbool (pr_flat a1.E r1 f1)
      subst this
      exact ⟨_, rfl, hq _ H1 G1 fps1 [] a1.drop ⟨rfl, .bl _⟩ s1⟩
    · cases he
  · exact h1 X W ok env σ H G fps _ _ E e1 fun cls d H1 G1 fps1 a1 x1 => hq cls d H1 G1 fps1 a1 x1
theorem se_neg {a : CE} {x : Expr} {p : Pos} (h1 : SE c N sc fn x a) : SE c N sc fn (.UnaryOp .USub x p) (.neg a) := by
  intro X W ok env σ H G fps out Q E he hq
  simp only [evalE_neg] at he
  refine tE_of (pe_un un_neg (peS X x)) ?_
  rcases bnd_ways he with ⟨p1, env1, e1, he⟩ | ⟨z, env1, e1, rfl⟩
  · refine h1 X W ok env σ H G fps _ _ E e1 fun vx H1 G1 fps1 fpt1 a1 r1 s1 => ?_
    split at he
    · rename_i b f1
      cases he
      have := rint (pr_flat a1.E r1 f1)
      subst this
      exact ⟨_, rfl, hq _ H1 G1 fps1 [] a1.drop ⟨rfl, .int _⟩ s1⟩
    · cases he
  · exact h1 X W ok env σ H G fps _ _ E e1 fun cls d H1 G1 fps1 a1 x1 => hq cls d H1 G1 fps1 a1 x1
/-! ### tests -/
theorem isTrue_bool {op : BoolOp} {vs : List Expr} {p : Pos} {env : PySem.Env} (w1 w2 : Sem Value) : isTrue (.BoolOp op vs p) env w1 = isTrue (.BoolOp op vs p) env w2 := by
  simp only [PySem.isTrue]
theorem pwS (X : Cx) (op : BoolOp) (vs : List Expr) (p : Pos) : PW X (.BoolOp op vs p) (tT X (.BoolOp op vs p)) := ⟨fun wh pins s σ H Q I h => by
  rw [isTrue_bool wh (eval (.BoolOp op vs p) X.env)]
  exact h pins s I⟩
theorem tand_ok {a b : CB} {x : Expr} {X : Cx} {W : WX} {t2 : TT} (h1 : SB c N sc fn x a) (ok : CtxOk c X W N sc fn) {env : Env} {σ : L2.St} {H : Hp} {G : Addr → Prop} {fps : Fs} {out : Out Bool} {Q : Bool → Hp → Prop} (E : EnvR c.K env σ H G fps)
    (h2 : ∀ env σ H G fps out Q, EnvR c.K env σ H G fps → evalT c.Γ b env = some out → GT c W σ H G fps (noeffb b) Q out → t2 σ H Q)
    (he : evalT c.Γ (.and a b) env = some out) (hq : GT c W σ H G fps (noeffb (.and a b)) Q out) : tAnd (tT X x) t2 σ H Q := by
  simp only [evalT_and] at he
  rcases bnd_ways he with ⟨p1, env1, e1, he⟩ | ⟨z, env1, e1, rfl⟩
  · refine h1 X W ok env σ H G fps _ _ E e1 fun H1 G1 fps1 a1 s1 => ?_
    cases p1 with
    | true =>
      rw [if_pos rfl] at he
      rw [if_pos rfl]
      refine h2 env1 σ H1 G1 fps1 out Q a1.E he ?_
      cases out with
      | ok p env2 =>
        exact fun H2 G2 fps2 a2 s2 => hq H2 G2 fps2 (a1.next a2) fun hn => by
          simp only [noeffb_and, Bool.and_eq_true] at hn
          exact (s1 hn.1).trans (s2 hn.2)
      | exc x env2 => exact fun cls d H2 G2 fps2 a2 x2 => hq cls d H2 G2 fps2 (a1.next a2) x2
    | false =>
      rw [if_neg Bool.false_ne_true] at he
      rw [if_neg Bool.false_ne_true]
      cases he
      exact hq H1 G1 fps1 a1 fun hn => by
        simp only [noeffb_and, Bool.and_eq_true] at hn
        exact s1 hn.1
  · exact h1 X W ok env σ H G fps _ _ E e1 fun cls d H1 G1 fps1 a1 x1 => hq cls d H1 G1 fps1 a1 x1
theorem tor_ok {a b : CB} {x : Expr} {X : Cx} {W : WX} {t2 : TT} (h1 : SB c N sc fn x a) (ok : CtxOk c X W N sc fn) {env : Env} {σ : L2.St} {H : Hp} {G : Addr → Prop} {fps : Fs} {out : Out Bool} {Q : Bool → Hp → Prop} (E : EnvR c.K env σ H G fps)
    (h2 : ∀ env σ H G fps out Q, EnvR c.K env σ H G fps → evalT c.Γ b env = some out → GT c W σ H G fps (noeffb b) Q out → t2 σ H Q)
    (he : evalT c.Γ (.or a b) env = some out) (hq : GT c W σ H G fps (noeffb (.or a b)) Q out) : tOr (tT X x) t2 σ H Q := by
  simp only [evalT_or] at he
  rcases bnd_ways he with ⟨p1, env1, e1, he⟩ | ⟨z, env1, e1, rfl⟩
  · refine h1 X W ok env σ H G fps _ _ E e1 fun H1 G1 fps1 a1 s1 => ?_
    cases p1 with
    | false =>
      rw [if_neg Bool.false_ne_true] at he
      rw [if_neg Bool.false_ne_true]
      refine h2 env1 σ H1 G1 fps1 out Q a1.E he ?_
      cases out with
      | ok p env2 =>
        exact fun H2 G2 fps2 a2 s2 => hq H2 G2 fps2 (a1.next a2) fun hn => by
          simp only [noeffb_or, Bool.and_eq_true] at hn
          exact (s1 hn.1).trans (s2 hn.2)
      | exc x env2 => exact fun cls d H2 G2 fps2 a2 x2 => hq cls d H2 G2 fps2 (a1.next a2) x2
    | true =>
      rw [if_pos rfl] at he
      rw [if_pos rfl]
      cases he
      exact hq H1 G1 fps1 a1 fun hn => by
        simp only [noeffb_or, Bool.and_eq_true] at hn
        exact s1 hn.1
  · exact h1 X W ok env σ H G fps _ _ E e1 fun cls d H1 G1 fps1 a1 x1 => hq cls d H1 G1 fps1 a1 x1
theorem sb_and1 {a b : CB} {x y : Expr} {p : Pos} (h1 : SB c N sc fn x a) (h2 : SB c N sc fn y b) : SB c N sc fn (.BoolOp .And [x, y] p) (.and a b) :=
  fun X W ok env σ H G fps out Q E he hq => tT_of (PW.pt (pw_and (ptS X x) (pw_and1 (ptS X y)))) (tand_ok h1 ok E (h2 X W ok) he hq)
theorem sb_and2 {a b : CB} {x y z : Expr} {r : List Expr} {p : Pos} (h1 : SB c N sc fn x a) (h2 : SB c N sc fn (.BoolOp .And (y :: z :: r) p) b) : SB c N sc fn (.BoolOp .And (x :: y :: z :: r) p) (.and a b) :=
  fun X W ok env σ H G fps out Q E he hq => tT_of (PW.pt (pw_and (ptS X x) (pwS X _ _ _))) (tand_ok h1 ok E (h2 X W ok) he hq)
theorem sb_or1 {a b : CB} {x y : Expr} {p : Pos} (h1 : SB c N sc fn x a) (h2 : SB c N sc fn y b) : SB c N sc fn (.BoolOp .Or [x, y] p) (.or a b) :=
  fun X W ok env σ H G fps out Q E he hq => tT_of (PW.pt (pw_or (ptS X x) (pw_or1 (ptS X y)))) (tor_ok h1 ok E (h2 X W ok) he hq)
theorem sb_or2 {a b : CB} {x y z : Expr} {r : List Expr} {p : Pos} (h1 : SB c N sc fn x a) (h2 : SB c N sc fn (.BoolOp .Or (y :: z :: r) p) b) : SB c N sc fn (.BoolOp .Or (x :: y :: z :: r) p) (.or a b) :=
  fun X W ok env σ H G fps out Q E he hq => tT_of (PW.pt (pw_or (ptS X x) (pwS X _ _ _))) (tor_ok h1 ok E (h2 X W ok) he hq)
theorem sb_not {a : CB} {x : Expr} {p : Pos} (h1 : SB c N sc fn x a) : SB c N sc fn (.UnaryOp .Not x p) (.not a) := by
  intro X W ok env σ H G fps out Q E he hq
  simp only [evalT_not] at he
  refine tT_of (pt_not (ptS X x)) ?_
  rcases bnd_ways he with ⟨p1, env1, e1, he⟩ | ⟨z, env1, e1, rfl⟩
  · cases he
    exact h1 X W ok env σ H G fps _ _ E e1 fun H1 G1 fps1 a1 s1 => hq H1 G1 fps1 a1 s1
  · exact h1 X W ok env σ H G fps _ _ E e1 fun cls d H1 G1 fps1 a1 x1 => hq cls d H1 G1 fps1 a1 x1
theorem se_ite {t : CB} {a b : CE} {x y z : Expr} {p : Pos} (h0 : SB c N sc fn x t) (h1 : SE c N sc fn y a) (h2 : SE c N sc fn z b) : SE c N sc fn (.IfExp x y z p) (.ite t a b) := by
  intro X W ok env σ H G fps out Q E he hq
  simp only [evalE_ite] at he
  refine tE_of (pe_ifExp (ptS X x) (peS X y) (peS X z)) ?_
  rcases bnd_ways he with ⟨p1, env1, e1, he⟩ | ⟨z, env1, e1, rfl⟩
  · refine h0 X W ok env σ H G fps _ _ E e1 fun H1 G1 fps1 a1 s1 => ?_
    cases p1 with
    | true =>
      rw [if_pos rfl] at he
      rw [if_pos rfl]
      refine h1 X W ok env1 σ H1 G1 fps1 out Q a1.E he ?_
      cases out with
      | ok p env2 =>
        exact fun v H2 G2 fps2 fpt2 a2 r2 s2 => hq v H2 G2 fps2 fpt2 (a1.next a2) r2 fun hn => by
          simp only [noeff_ite, Bool.and_eq_true] at hn
          exact (s1 hn.1.1).trans (s2 hn.1.2)
      | exc x env2 => exact fun cls d H2 G2 fps2 a2 x2 => hq cls d H2 G2 fps2 (a1.next a2) x2
    | false =>
      rw [if_neg Bool.false_ne_true] at he
      rw [if_neg Bool.false_ne_true]
      refine h2 X W ok env1 σ H1 G1 fps1 out Q a1.E he ?_
      cases out with
      | ok p env2 =>
        exact fun v H2 G2 fps2 fpt2 a2 r2 s2 => hq v H2 G2 fps2 fpt2 (a1.next a2) r2 fun hn => by
          simp only [noeff_ite, Bool.and_eq_true] at hn
          exact (s1 hn.1.1).trans (s2 hn.2)
      | exc x env2 => exact fun cls d H2 G2 fps2 a2 x2 => hq cls d H2 G2 fps2 (a1.next a2) x2
  · exact h0 X W ok env σ H G fps _ _ E e1 fun cls d H1 G1 fps1 a1 x1 => hq cls d H1 G1 fps1 a1 x1
/-! ### items -/
theorem se_ix {a i : CE} {x y : Expr} {p : Pos} (hs : isSlice y = false) (h1 : SE c N sc fn x a) (h2 : SE c N sc fn y i) : SE c N sc fn (.Subscript x y p) (.ix a i) := by
  intro X W ok env σ H G fps out Q E he hq
  simp only [evalE_ix] at he
  refine tE_of (pe_ix ixAny (peS X x) (peS X y) (plainIx_ok hs)) ?_
  rcases bnd_ways he with ⟨p1, env1, e1, he⟩ | ⟨z, env1, e1, rfl⟩
  · refine h1 X W ok env σ H G fps _ _ E e1 fun vx H1 G1 fps1 fpt1 a1 r1 s1 => ?_
    rcases bnd_ways he with ⟨p2, env2, e2, he⟩ | ⟨z, env2, e2, rfl⟩
    · split at he
      · rename_i hst
        split at he
        · rename_i dx dy f1 f2
          cases hb : ixD dx dy with
          | none => rw [hb] at he; cases he
          | some o =>
            rw [hb] at he
            cases he
            refine h2 X W ok env1 σ H1 G1 fps1 _ _ a1.E e2 fun vy H2 G2 fps2 fpt2 a2 r2 s2 => ?_
            obtain ⟨r1', a1'⟩ := r1.next a1 a2 hst s2
            refine ix_ok (ok.eK ▸ pr_flat a2.E r1' f1) (ok.eK ▸ pr_flat a2.E r2 f2) hb fun v r3 => ?_
            exact hq v H2 G2 fps2 [] (a1.next a2).drop ⟨rfl, ok.eK ▸ r3⟩ fun hn => by
              simp only [noeff_ix, Bool.and_eq_true] at hn
              exact (s1 hn.1).trans (s2 hn.2)
        · cases he
      · cases he
    · exact h2 X W ok env1 σ H1 G1 fps1 _ _ a1.E e2 fun cls d H3 G3 fps3 a3 x3 => hq cls d H3 G3 fps3 (a1.next a3) x3
  · exact h1 X W ok env σ H G fps _ _ E e1 fun cls d H1 G1 fps1 a1 x1 => hq cls d H1 G1 fps1 a1 x1
theorem se_fld {i : Nat} {k x : Str} {j : Nat} {p p1 p2 : Pos} (h : (decide (N[i]? = some x) && visB sc x && nmB x) = true) : SE c N sc fn (.Subscript (.Name x p1) (.Constant (.str k) j p2) p) (.fld i k) := by
  intro X W ok env σ H G fps out Q E he hq
  simp only [evalE_fld] at he
  have hu := ok.hu
  refine tE_of (pe_dget (by omega) (peS X _) pe_str (fun _ _ => rfl)) ?_
  split at he
  · rename_i kvs hk
    obtain ⟨v, hv, r⟩ := E.rep i _ hk
    obtain ⟨a, rv, fp', rfl, hf, na, ng, hl, hr⟩ := r
    split at he
    · rename_i d hd
      cases he
      obtain ⟨v, fp1, q1, q2, q3⟩ := look_val hr hd
      refine tE_var ok h hv ⟨a, v, rfl, ?_, ?_⟩
      · have := DGet.k (k := Sum.inr k) hl
        rw [q1] at this
        exact this
      · exact hq v H G fps [] (Aft.refl E) ⟨rfl, q2.2⟩ fun _ => same_refl H
    · rename_i ds hd
      cases he
      obtain ⟨v, fp1, q1, q2, q3⟩ := look_val hr hd
      refine tE_var ok h hv ⟨a, v, rfl, ?_, ?_⟩
      · have := DGet.k (k := Sum.inr k) hl
        rw [q1] at this
        exact this
      · exact hq v H G fps [] (Aft.refl E) ⟨rfl, a, rv, hv, hl, q1⟩ fun _ => same_refl H
    · cases he
  · cases he
def SO_ (c : Ct) (N : List Str) (sc : Scope) (fn : Str → Bool) (l : Option Expr) (a : CEo) : Prop := ∀ X W, CtxOk c X W N sc fn → ∃ t : TO, PO X l t ∧ ∀ env σ H G fps out Q, EnvR c.K env σ H G fps → evalO c.Γ a env = some out → GO c W σ H G fps (noeffo a) Q out → t σ H Q
theorem so_none : SO_ c N sc fn none .none := fun X W ok => ⟨_, po_none, fun env σ H G fps out Q E he hq => by
  simp only [evalO_none] at he
  cases he
  exact hq H G fps (Aft.refl E) fun _ => same_refl H⟩
theorem so_some {a : CE} {x : Expr} (h1 : SE c N sc fn x a) : SO_ c N sc fn (some x) (.some a) := fun X W ok => ⟨_, po_some (peS X x), fun env σ H G fps out Q E he hq => by
  simp only [evalO_some] at he
  rcases bnd_ways he with ⟨p1, env1, e1, he⟩ | ⟨z, env1, e1, rfl⟩
  · refine h1 X W ok env σ H G fps _ _ E e1 fun vx H1 G1 fps1 fpt1 a1 r1 s1 => ?_
    split at he
    · rename_i i f1
      cases he
      have := rint (pr_flat a1.E r1 f1)
      subst this
      exact ⟨i, rfl, hq H1 G1 fps1 a1.drop s1⟩
    · cases he
  · exact h1 X W ok env σ H G fps _ _ E e1 fun cls d H1 G1 fps1 a1 x1 => hq cls d H1 G1 fps1 a1 x1⟩
theorem se_sl {a : CE} {lo hi : CEo} {x : Expr} {l h : Option Expr} {p p2 : Pos} (h1 : SE c N sc fn x a) (h2 : SO_ c N sc fn l lo) (h3 : SO_ c N sc fn h hi) : SE c N sc fn (.Subscript x (.Slice l h none p2) p) (.sl a lo hi) := by
  intro X W ok env σ H G fps out Q E he hq
  simp only [evalE_sl] at he
  obtain ⟨t2, p2', h2⟩ := h2 X W ok
  obtain ⟨t3, p3', h3⟩ := h3 X W ok
  refine tE_of (pe_slice slAny (peS X x) p2' p3') ?_
  rcases bnd_ways he with ⟨p1, env1, e1, he⟩ | ⟨z, env1, e1, rfl⟩
  · refine h1 X W ok env σ H G fps _ _ E e1 fun vx H1 G1 fps1 fpt1 a1 r1 s1 => ?_
    rcases bnd_ways he with ⟨l', env2, e2, he⟩ | ⟨z, env2, e2, rfl⟩
    · refine h2 env1 σ H1 G1 fps1 _ _ a1.E e2 fun H2 G2 fps2 a2 s2 => ?_
      rcases bnd_ways he with ⟨h', env3, e3, he⟩ | ⟨z, env3, e3, rfl⟩
      · split at he
        · rename_i hst
          split at he
          · rename_i dx f1
            cases hb : slO dx l' h' with
            | none => rw [hb] at he; cases he
            | some o =>
              rw [hb] at he
              cases he
              refine h3 env2 σ H2 G2 fps2 _ _ a2.E e3 fun H3 G3 fps3 a3 s3 => ?_
              obtain ⟨r1', a1'⟩ := r1.next a1 (a2.next a3) hst fun hn => by
                simp only [Bool.and_eq_true] at hn
                exact (s2 hn.1).trans (s3 hn.2)
              refine sl_ok a3.E.gh (ok.eK ▸ pr_flat a3.E r1' f1) hb ?_
              rw [ok.eK]
              exact resO_of a3.E fun v H4 fp a4 r4 s4 => hq v H4 G3 fps3 fp (((a1.next a2).next a3).next a4) r4 fun hn => by
                simp only [noeff_sl, Bool.and_eq_true] at hn
                exact (s1 hn.1.1).trans ((s2 hn.1.2).trans ((s3 hn.2).trans s4))
          · cases he
        · cases he
      · exact h3 env2 σ H2 G2 fps2 _ _ a2.E e3 fun cls d H3 G3 fps3 a3 x3 => hq cls d H3 G3 fps3 ((a1.next a2).next a3) x3
    · exact h2 env1 σ H1 G1 fps1 _ _ a1.E e2 fun cls d H3 G3 fps3 a3 x3 => hq cls d H3 G3 fps3 (a1.next a3) x3
  · exact h1 X W ok env σ H G fps _ _ E e1 fun cls d H1 G1 fps1 a1 x1 => hq cls d H1 G1 fps1 a1 x1
end
end NW
end
section
set_option linter.all false
set_option maxRecDepth 100000
set_option maxHeartbeats 1000000
/-! NWi: calls, displays of dicts -/
namespace NW
open PySem L2 PyProof.Rows
section
variable {c : Ct} {N : List Str} {sc : Scope} {fn : Str → Bool}
theorem biName_in (b : BI) : biName b ∈ bltNames := by cases b <;> decide +kernel
theorem biName_nm (b : BI) : (biName b == ("__debug__" : Str)) = false ∧ biName b ≠ "__name__" := by cases b <;> decide +kernel
theorem bi_boot (b : BI) : bootBuiltins (biName b) = some (biVal b) := by cases b <;> decide +kernel
theorem bi_kind (b : BI) : (∃ id, biVal b = .builtin id) ∨ ∃ T, biVal b = .type T := by
  cases b <;> first | exact .inl ⟨_, rfl⟩ | exact .inr ⟨_, rfl⟩
theorem pe_bi {X : Cx} {W : WX} (ok : CtxOk c X W N sc fn) (b : BI) {r : List V → Hp → VK → Prop} (hc : CallR X (biVal b) r) {x : Str} {e : Expr} {es : List Expr} {as : CEs} {p pos : Pos} (hx : x = biName b) (hg : glB sc x = true) (hm : mEs N as sc fn (e :: es) = true) :
    PE X (.Call (.Name x p) (e :: es) [] pos) (tCB r (tA X (e :: es))) := by
  subst hx
  have hst : isStar e = false := by
    cases as with
    | nil => simp [mEs_nil] at hm
    | cons a as =>
      simp only [mEs_cons, Bool.and_eq_true, Bool.not_eq_true'] at hm
      exact hm.1.1
  have hpl : (backTo pos (starEach es X.env)).any (·.1) = false := by
    cases as with
    | nil => simp [mEs_nil] at hm
    | cons a as =>
      simp only [mEs_cons, Bool.and_eq_true, Bool.not_eq_true'] at hm
      exact starEach_any X.env pos hm.2
  obtain ⟨n1, n2⟩ := biName_nm b
  rcases bi_kind b with ⟨id, e'⟩ | ⟨T, e'⟩
  · exact pe_callB (id := id) (e' ▸ hc) (ok.gl hg) (ok.bl (biName_in b)) (e' ▸ bi_boot b) (paS X _) n2 n1 (star_ok hst es X.env) hpl
  · exact pe_callTy (T := T) (e' ▸ hc) (ok.gl hg) (ok.bl (biName_in b)) (e' ▸ bi_boot b) (paS X _) n2 n1 (star_ok hst es X.env) hpl
theorem se_bi {b : BI} {as : CEs} {x : Str} {e : Expr} {es : List Expr} {p pos : Pos} (hx : x = biName b) (hg : glB sc x = true) (hm : mEs N as sc fn (e :: es) = true) (h : SPs c N sc fn (e :: es) as) : SE c N sc fn (.Call (.Name x p) (e :: es) [] pos) (.bi b as) := by
  intro X W ok env σ H G fps out Q E he hq
  simp only [evalE_bi] at he
  refine tE_of (pe_bi ok b callAny hx hg hm) ?_
  rcases bnd_ways he with ⟨ps, env1, e1, he⟩ | ⟨y, env1, e1, rfl⟩
  · refine h X W ok env σ H G fps _ _ E e1 fun vs H1 G1 fps1 fpt1 a1 r1 s1 => ?_
    split at he
    · rename_i ds f1
      cases hb : biO b ds with
      | none => rw [hb] at he; cases he
      | some o =>
        rw [hb] at he
        cases he
        refine bi_ok ok.calm ok.rm.gd (by have := ok.rm.rm.un; omega) b a1.E.gh (ok.eK ▸ prs_flats a1.E r1 f1) hb ?_
        rw [ok.eK]
        exact resO_of a1.E fun v H3 fp a3 r3 s3 => hq v H3 G1 fps1 fp (a1.next a3) r3 fun hn => (s1 hn).trans s3
    · cases he
  · exact h X W ok env σ H G fps _ _ E e1 fun cls d H1 G1 fps1 a1 x1 => hq cls d H1 G1 fps1 a1 x1
theorem se_idx {a y : CE} {nm : Str} {np ap cp : Pos} {z : Expr} (hline : (ap.endLine == cp.line) = true) (hs : isStar z = false) (h1 : SE c N sc fn (.Name nm np) a) (h2 : SE c N sc fn z y) : SE c N sc fn (.Call (.Attribute (.Name nm np) "index" ap) [z] [] cp) (.idx a y) := by
  intro X W ok env σ H G fps out Q E he hq
  simp only [evalE_idx] at he
  have hst := star_ok hs [] X.env
  refine tE_of (pe_bm PySem.F.plainAttrs_list PySem.F.slot_list_index PySem.F.type_list_index mtAny (peS X _) (pa_cons (peS X z) pa_nil hst) rfl (by rw [hst]; rfl) hline hst rfl) ?_
  rcases bnd_ways he with ⟨p1, env1, e1, he⟩ | ⟨w, env1, e1, rfl⟩
  · refine h1 X W ok env σ H G fps _ _ E e1 fun vx H1 G1 fps1 fpt1 a1 r1 s1 => ?_
    split at he
    · rename_i ds0 f0
      obtain ⟨ua, xs0, rfl, q0, _⟩ := pr_flat a1.E r1 f0
      refine ⟨.inl ⟨rfl, xs0, by rw [ok.eK]; exact q0⟩, ?_⟩
      rcases bnd_ways he with ⟨p2, env2, e2, he⟩ | ⟨w, env2, e2, rfl⟩
      · split at he
        · rename_i hst
          split at he
          · rename_i ds dy f1 f2
            cases hb : idxD ds dy with
            | none => rw [hb] at he; cases he
            | some j =>
              rw [hb] at he
              cases he
              refine h2 X W ok env1 σ H1 G1 fps1 _ _ a1.E e2 fun vy H2 G2 fps2 fpt2 a2 r2 s2 => ?_
              obtain ⟨r1', a1'⟩ := r1.next a1 a2 hst s2
              refine idx_ok ok.hu2 (ok.eK ▸ pr_flat a2.E r1' f1) (ok.eK ▸ pr_flat a2.E r2 f2) hb ?_
              exact hq _ H2 G2 fps2 [] (a1.next a2).drop ⟨rfl, .int _⟩ fun hn => by
                simp only [noeff_idx, Bool.and_eq_true] at hn
                exact (s1 hn.1).trans (s2 hn.2)
          · cases he
        · cases he
      · exact h2 X W ok env1 σ H1 G1 fps1 _ _ a1.E e2 fun cls d H3 G3 fps3 a3 x3 => hq cls d H3 G3 fps3 (a1.next a3) x3
    · cases he
  · exact h1 X W ok env σ H G fps _ _ E e1 fun cls d H1 G1 fps1 a1 x1 => hq cls d H1 G1 fps1 a1 x1
theorem ty_in (T : TyK) : Str.ofString (tyName T) ∈ bltNames := by cases T <;> decide +kernel
theorem ty_nm (T : TyK) : (Str.ofString (tyName T) == ("__debug__" : Str)) = false ∧ Str.ofString (tyName T) ≠ "__name__" := by cases T <;> decide +kernel
theorem ty_boot (T : TyK) : bootBuiltins (Str.ofString (tyName T)) = some (.type (tyName T)) := by cases T <;> decide +kernel
theorem se_isi {a : CE} {T : TyK} {y : Expr} {p p1 p2 : Pos} (hg : glB sc "isinstance" = true) (hz : glB sc (Str.ofString (tyName T)) = true) (hs : isStar y = false) (h : SE c N sc fn y a) : SE c N sc fn (.Call (.Name "isinstance" p) [y, .Name (Str.ofString (tyName T)) p1] [] p2) (.isi a T) := by
  intro X W ok env σ H G fps out Q E he hq
  simp only [evalE_isi] at he
  obtain ⟨n1, n2⟩ := ty_nm T
  refine tE_of (pe_callB callAny (ok.gl hg) (ok.bl (by decide +kernel)) boot_isinstance (pa_cons (peS X y) (pa_cons (pe_bltn (v := .ty (tyName T)) (ok.gl hz) (ok.bl (ty_in T)) (ty_boot T) rfl n2 n1) pa_nil) (star_ok hs _ X.env)) (by decide +kernel) (by decide +kernel) (star_ok hs _ X.env) rfl) ?_
  rcases bnd_ways he with ⟨p, env1, e1, he⟩ | ⟨y, env1, e1, rfl⟩
  · refine h X W ok env σ H G fps _ _ E e1 fun v H1 G1 fps1 fpt1 a1 r1 s1 => ?_
    split at he
    · rename_i d f1
      cases he
      exact isi_ok T (ok.eK ▸ pr_flat a1.E r1 f1) (hq _ H1 G1 fps1 [] a1.drop ⟨rfl, .bl _⟩ s1)
    · cases he
  · exact h X W ok env σ H G fps _ _ E e1 fun cls d H1 G1 fps1 a1 x1 => hq cls d H1 G1 fps1 a1 x1
theorem ints_dp {K : PySem.W.Frag} {H : Hp} : ∀ (ns : List Int), DpAll K H (ns.map V.int) (ns.map PyData.int)
  | [] => .nil
  | n :: r => .cons (.int n) (ints_dp r)
/-- sorted(set(x)) -/
theorem se_sset {a : CE} {y : Expr} {p p1 p2 p3 : Pos} (hg : glB sc "sorted" = true) (hz : glB sc "set" = true) (hs : isStar y = false) (h : SE c N sc fn y a) : SE c N sc fn (.Call (.Name "sorted" p) [.Call (.Name "set" p1) [y] [] p2] [] p3) (.sset a) := by
  intro X W ok env σ H G fps out Q E he hq
  simp only [evalE_sset] at he
  refine tE_of (pe_callB (cr_sortedSet ok.calm) (ok.gl hg) (ok.bl (by decide +kernel)) PyProof.Rows.Boot.«sorted» (pa_cons (pe_callTy (cr_setI ok.calm) (ok.gl hz) (ok.bl (by decide +kernel)) PyProof.Rows.boot_set (pa_cons (peS X y) pa_nil (star_ok hs [] X.env)) (by decide +kernel) (by decide +kernel) (star_ok hs [] X.env) rfl) pa_nil (star_ok rfl [] X.env)) (by decide +kernel) (by decide +kernel) (star_ok rfl [] X.env) rfl) ?_
  rcases bnd_ways he with ⟨p, env1, e1, he⟩ | ⟨y, env1, e1, rfl⟩
  · refine h X W ok env σ H G fps _ _ E e1 fun v H1 G1 fps1 fpt1 a1 r1 s1 => ?_
    split at he
    · rename_i ds f1
      split at he
      · rename_i ns f2
        split at he
        · rename_i hn
          cases he
          cases hf : flatP p env1 with
          | none => rw [hf] at f1; cases f1
          | some d =>
            rw [hf] at f1
            obtain ⟨a0, xs, rfl, hsq, hr⟩ := rp_row (pr_flat a1.E r1 hf) f1
            have := ints_rp hr f2
            subst this
            refine ⟨a0, ns, rfl, by rw [ok.eK]; exact hsq, by omega, fun q n hqn hq0 => ?_⟩
            have hs2 := same_upd (o := SetO X.w q (fun j => decide (j ∈ ns)) n) hq0
            have E2 := a1.E.same hs2
            have a12 : Aft c.K σ H1 G1 fps1 env1 _ G1 fps1 [] := ⟨E2, Same.stepF hs2, (fun b hb => nomatch hb), (fun b hb => nomatch hb)⟩
            refine ⟨q, _, n, rfl, upd_same, by omega, fun ms l m1 m2 m3 hl => ?_⟩
            have em : ms = ssetI ns := by
              rw [ssetI_def]
              exact asc_eq m1 setI_asc fun k => by rw [m2 k, setI_mem]; simp
            subst em
            exact (resO_of (o := .lst ((ssetI ns).map PyData.int)) E2 fun v H4 fp a4 r4 s4 => hq v H4 G1 fps1 fp ((a1.next a12).next a4) r4 fun hn => ((s1 hn).trans hs2).trans s4).newL E2.gh (ints_dp _) hl
        · cases he
      · cases he
    · cases he
  · exact h X W ok env σ H G fps _ _ E e1 fun cls d H1 G1 fps1 a1 x1 => hq cls d H1 G1 fps1 a1 x1
/-! ### defs -/
theorem arg_len {K : PySem.W.Frag} {H : Hp} {vs : List V} {ds : List D} (r : DpAll K H vs ds) : vs.length = ds.length := dpAll_length r
theorem step_lift {K : PySem.W.Frag} {σ : L2.St} {H0 H1 H2 : Hp} {G0 G1 G2 : Addr → Prop} {fps0 fps1 : Fs} {env1 : Env} {fpt1 : List Addr} (a : Aft K σ H0 G0 fps0 env1 H1 G1 fps1 fpt1) (s : Step H1 G1 F0 H2 G2 F0) (g : GHeld H2 G2) : Aft K σ H1 G1 fps1 env1 H2 G2 fps1 [] :=
  ⟨a.E.step s (fun _ _ f => f) (fun _ _ f => f) g, ⟨fun b u e _ => s.keep b u e fun f => f, s.tups, s.frzs, s.gsub, fun b h => (s.gnew b h).elim .inl fun z => z.elim (fun f => f.elim) fun z => .inr (.inr z), fun b h => .inl h⟩, (fun b hb => nomatch hb), (fun b hb => nomatch hb)⟩
theorem f0_same {H1 H2 : Hp} {G1 G2 : Addr → Prop} (s : Step H1 G1 F0 H2 G2 F0) : Same H1 H2 := fun b u e => s.keep b u e fun f => f
/-- behind the arguments of a call: its promise gives the rest -/
theorem call_tail {m : Mean} {X : Cx} {W : WX} {env1 : Env} {σ : L2.St} {H H1 : Hp} {G G1 : Addr → Prop} {fps fps1 : Fs} {out : Out P} {Q : VK} {ne : Bool} {ds : List D} {vs : List V}
    (a1 : Aft c.K σ H G fps env1 H1 G1 fps1 []) (r1 : RpA c.K H1 G1 vs ds) (s1 : ne = true → Same H H1) (he : callD m ds env1 = some out) (hq : GE c W σ H G fps ne Q out) : spOf c m vs H1 Q (WE W σ) := by
  cases m with
  | pure n m =>
    simp only [callD] at he
    split at he
    · rename_i hn
      split at he
      · rename_i d hd
        cases he
        refine ⟨G1, ds, .ok d, a1.E.gh, r1, hn, hd, fun v H2 G2 st gh r2 => ?_⟩
        exact hq v H2 G2 fps1 [] (a1.next (step_lift a1 st gh)) ⟨rfl, r2⟩ fun hn => (s1 hn).trans (f0_same st)
      · rename_i x hd
        cases he
        refine ⟨G1, ds, .error x, a1.E.gh, r1, hn, hd, fun cls dd H2 G2 st gh r2 => ?_⟩
        exact hq cls dd H2 G2 fps1 (a1.next (step_lift a1 st gh)) r2
      · cases he
    · cases he
  | mk n m =>
    simp only [callD] at he
    split at he
    · rename_i hn
      split at he
      · rename_i o hd
        cases he
        refine ⟨G1, ds, o, a1.E.gh, r1, hn, hd, fun v H2 G2 fp st gh r2 hnew => ?_⟩
        have a2 := step_lift a1 st gh
        refine hq v H2 G2 fps1 fp ⟨a2.E, (a1.next a2).S, fun b hb => (a1.S.none_of (hnew b hb)).symm, fun b hb f => ?_⟩ r2 fun hn => (s1 hn).trans (f0_same st)
        obtain ⟨_, u, e⟩ := a1.E.held f
        rw [hnew b hb] at e; cases e
      · cases he
    · cases he
  | io n m => cases he
  | exn f => cases he
theorem plain_of {as : CEs} {e : Expr} {es : List Expr} {pos : Pos} (env : PySem.Env) (hm : mEs N as sc fn (e :: es) = true) : isStar e = false ∧ (backTo pos (starEach es env)).any (·.1) = false := by
  cases as with
  | nil => simp [mEs_nil] at hm
  | cons a as =>
    simp only [mEs_cons, Bool.and_eq_true, Bool.not_eq_true'] at hm
    exact ⟨hm.1.1, starEach_any env pos hm.2⟩
theorem nil_of {as : CEs} (hm : mEs N as sc fn [] = true) : as = .nil := by
  cases as with
  | nil => rfl
  | cons a as => simp [mEs_cons] at hm
theorem se_call {f : Str} {as : CEs} {l : List Expr} {p pos : Pos} (hg : glB sc f = true) (hm : mEs N as sc fn l = true) (h : SDs c N sc fn l as) : SE c N sc fn (.Call (.Name f p) l [] pos) (.call f as) := by
  intro X W ok env σ H G fps out Q E he hq
  simp only [evalE_call] at he
  split at he
  · rename_i m hf
    obtain ⟨fa, fd, ps, k, F, hr, hmg, hk, hb, hdb⟩ := ok.fns f m hf
    cases l with
    | nil =>
      have := nil_of hm
      subst this
      simp only [evalDs_nil, bnd_ok] at he
      exact tE_of (pe_callG0 F hr (ok.gl hg) (by rw [ok.eM]; exact hmg) (by rw [ok.eK]; exact hk) (by rw [ok.eK]; exact hb) (fun σ => passAt ok.tk σ) hdb) (call_tail (X := X) (Aft.refl E) .nil (fun _ => same_refl H) he hq)
    | cons e es =>
      obtain ⟨hst, hpl⟩ := plain_of (pos := pos) X.env hm
      refine tE_of (pe_callG F hr (ok.gl hg) (by rw [ok.eM]; exact hmg) (by rw [ok.eK]; exact hk) (by rw [ok.eK]; exact hb) (fun σ => passAt ok.tk σ) (paS X _) hdb (star_ok hst es X.env) hpl) ?_
      rcases bnd_ways he with ⟨ds, env1, e1, he⟩ | ⟨y, env1, e1, rfl⟩
      · exact h X W ok env σ H G fps _ _ E e1 fun vs H1 G1 fps1 a1 r1 s1 => call_tail (X := X) a1 r1 s1 he hq
      · exact h X W ok env σ H G fps _ _ E e1 fun cls d H1 G1 fps1 a1 x1 => hq cls d H1 G1 fps1 a1 x1
  · cases he
/-- what a call changes at a name's place -/
theorem Aft.io {K : PySem.W.Frag} {σ : L2.St} {H0 H1 H2 : Hp} {G0 G1 G2 : Addr → Prop} {fps0 fps1 : Fs} {env1 : Env} {i : Nat} {o o' : O} {v : V} {fp' : List Addr} (a : Aft K σ H0 G0 fps0 env1 H1 G1 fps1 [])
    (hs : slot env1 i = some o) (hv : σ[i]? = some (some v)) (s : Step H1 G1 (· ∈ fps1 i) H2 G2 (· ∈ fp')) (g : GHeld H2 G2) (r : Ow K H2 G2 o' v fp') :
    Aft K σ H1 G1 fps1 (env1.set i (some o')) H2 G2 (updF fps1 i fp') [] := by
  have hi := slot_lt hs
  have off : ∀ j, j ≠ i → ∀ b ∈ fps1 j, ¬ b ∈ fps1 i := fun j hj b hb hb' => hj (a.E.dis j i b hb hb')
  have offN : ∀ j, j ≠ i → ∀ b ∈ fps1 j, ¬ b ∈ fp' := fun j hj b hb hb' => by
    rcases s.fnew b hb' with z | z
    · exact off j hj b hb z
    · obtain ⟨_, u, e⟩ := a.E.held ⟨j, hb⟩
      rw [z] at e; cases e
  refine ⟨⟨g, by rw [List.length_set]; exact a.E.len, fun j o2 hj => ?_, fun j hj => ?_, fun j k b hb hb' => ?_⟩, ⟨fun b u e nf => s.keep b u e fun f => nf ⟨i, f⟩, s.tups, s.frzs, s.gsub, fun b hb => ?_, fun b ⟨j, hj⟩ => ?_⟩, (fun b hb => nomatch hb), (fun b hb => nomatch hb)⟩
  · rw [slot_set hi] at hj
    by_cases e : j = i
    · rw [if_pos e] at hj
      cases hj
      subst e
      exact ⟨v, hv, by rw [updF_same]; exact r⟩
    · rw [if_neg e] at hj
      obtain ⟨w, hw, q⟩ := a.E.rep j o2 hj
      rw [updF_ne e]
      exact ⟨w, hw, q.step s (fun b hb f => a.E.gf b hb ⟨i, f⟩) (off j e)⟩
  · rw [slot_set hi] at hj
    by_cases e : j = i
    · rw [if_pos e] at hj; cases hj
    · rw [if_neg e] at hj
      rw [updF_ne e]; exact a.E.emp j hj
  · unfold updF at hb hb'
    split at hb
    · rename_i e
      split at hb'
      · rename_i e'
        rw [e, e']
      · rename_i e'
        exact (offN k e' b hb' hb).elim
    · rename_i e
      split at hb'
      · exact (offN j e b hb hb').elim
      · exact a.E.dis j k b hb hb'
  · rcases s.gnew b hb with z | z | z
    · exact .inl z
    · exact .inr (.inl ⟨i, z⟩)
    · exact .inr (.inr z)
  · unfold updF at hj
    split at hj
    · rcases s.fnew b hj with z | z
      · exact .inl ⟨i, z⟩
      · exact .inr z
    · exact .inl ⟨j, hj⟩
theorem io_tail {m : Mean} {X : Cx} {W : WX} {env1 : Env} {σ : L2.St} {H H1 : Hp} {G G1 : Addr → Prop} {fps fps1 : Fs} {out : Out P} {Q : VK} {i : Nat} {ds : List D} {vs : List V} {v : V}
    (a1 : Aft c.K σ H G fps env1 H1 G1 fps1 []) (r1 : RpA c.K H1 G1 vs ds) (hv : σ[i]? = some (some v)) (he : callI m i ds env1 = some out) (hq : GE c W σ H G fps false Q out) : spOf c m (v :: vs) H1 Q (WE W σ) := by
  cases m with
  | io n m =>
    simp only [callI] at he
    split at he
    · rename_i hn
      split at he
      · rename_i o ho
        obtain ⟨w, hw, hr⟩ := a1.E.rep i o ho
        rw [hv] at hw
        cases hw
        split at he
        · rename_i d o' hd
          cases he
          refine ⟨G1, o, o', v, vs, fps1 i, ds, .ok d, a1.E.gh, rfl, hr, r1, hn, hd, fun u H2 G2 fp' st gh r2 rd => ?_⟩
          exact hq u H2 G2 _ [] (a1.next (a1.io ho hv st gh r2)) ⟨rfl, rd⟩ (fun z => nomatch z)
        · rename_i x o' hd
          cases he
          refine ⟨G1, o, o', v, vs, fps1 i, ds, .error x, a1.E.gh, rfl, hr, r1, hn, hd, fun cls dd H2 G2 fp' st gh r2 rx => ?_⟩
          exact hq cls dd H2 G2 _ (a1.next (a1.io ho hv st gh r2)) rx
        · cases he
      · cases he
    · cases he
  | pure n m => cases he
  | mk n m => cases he
  | exn f => cases he
theorem se_cio {f : Str} {i : Nat} {y : Str} {as : CEs} {l : List Expr} {p p2 pos : Pos} (hg : glB sc f = true) (hy : (decide (N[i]? = some y) && visB sc y && nmB y) = true) (hm : mEs N as sc fn l = true) (h : SDs c N sc fn l as) :
    SE c N sc fn (.Call (.Name f p) (.Name y p2 :: l) [] pos) (.cio f i as) := by
  intro X W ok env σ H G fps out Q E he hq
  simp only [evalE_cio] at he
  split at he
  · rename_i m hf
    obtain ⟨fa, fd, ps, k, F, hr, hmg, hk, hb, hdb⟩ := ok.fns f m hf
    split at he
    · rename_i hsome
      obtain ⟨o, ho⟩ := Option.isSome_iff_exists.mp hsome
      obtain ⟨v, hv, _⟩ := E.rep i o ho
      refine tE_of (pe_callG F hr (ok.gl hg) (by rw [ok.eM]; exact hmg) (by rw [ok.eK]; exact hk) (by rw [ok.eK]; exact hb) (fun σ => passAt ok.tk σ) (pa_cons (peS X _) (paS X l) (star_ok rfl l X.env)) hdb (star_ok rfl l X.env) (starEach_any X.env pos hm)) ?_
      refine tE_var ok hy hv ?_
      rcases bnd_ways he with ⟨ds, env1, e1, he⟩ | ⟨z, env1, e1, rfl⟩
      · exact h X W ok env σ H G fps _ _ E e1 fun vs H1 G1 fps1 a1 r1 s1 => io_tail (X := X) a1 r1 hv he hq
      · exact h X W ok env σ H G fps _ _ E e1 fun cls d H1 G1 fps1 a1 x1 => hq cls d H1 G1 fps1 a1 x1
    · cases he
  · cases he
end
end NW
end
section
set_option linter.all false
set_option maxRecDepth 100000
set_option maxHeartbeats 1000000
/-! NWj: sources, targets, displays of dicts -/
namespace NW
open PySem L2 PyProof.Rows
/-! ### sources -/
section
variable {K : PySem.W.Frag} {H : Hp} {G : Addr → Prop}
theorem rp_keep {d : D} {v : V} {H H' : Hp} {G F G' F' : Addr → Prop} (s : Step H G F H' G' F') (dis : ∀ b, G b → ¬ F b) (h : Rp K H G v d) : Rp K H' G' v d := dp_mono (s.sub dis) _ _ h
theorem rlist {v : V} {ds : List D} (h : Rp K H G v (.list ds)) : ∃ a xs, v = .ref a ∧ SqL K H a xs ∧ RpA K H G xs ds := by
  cases h with
  | lst h1 h2 => exact ⟨_, _, rfl, (sub_forget K H G).l _ _ h1, h2⟩
theorem sqL_one {H : Hp} {a : Addr} {xs : List V} {i : Nat} {x : V} (h : SqL K H a xs) (e : xs[i]? = some x) {y : V} (q : ∀ zs, SqL K H a zs → zs[i]? = some y) : y = x := by
  have := q xs h
  rw [e] at this
  exact (Option.some.inj this).symm
theorem sqT_one {H : Hp} {a : Addr} {xs : List V} {i : Nat} {x : V} (h : SqT K H a xs) (e : xs[i]? = some x) {y : V} (q : ∀ zs, SqT K H a zs → zs[i]? = some y) : y = x := by
  have := q xs h
  rw [e] at this
  exact (Option.some.inj this).symm
theorem src_list {a : Addr} {ds : List D} (h : Rp K H G (.ref a) (.list ds)) : Src K (Itl K a) ds H G := by
  refine ⟨fun H G => Rp K H G (.ref a) (.list ds), h, fun H G F H' G' F' s dis r => rp_keep s dis r, fun i H G r => ?_⟩
  obtain ⟨a', xs, e, hs, hr⟩ := rlist r
  cases e
  refine ⟨fun d hd => ?_, fun hl => ⟨xs, hs, by rw [dpAll_length hr]; exact hl⟩⟩
  obtain ⟨v, hv, hd⟩ := dpAll_get hr hd
  refine ⟨⟨xs, v, hs, hv⟩, fun x H' y => ?_⟩
  obtain ⟨e, y⟩ := y
  subst e
  rw [sqL_one hs hv y]
  exact ⟨same_refl _, hd⟩
theorem src_tup {a : Addr} {ds : List D} (h : Rp K H G (.ref a) (.tuple ds)) : Src K (Itt K a) ds H G := by
  refine ⟨fun H G => Rp K H G (.ref a) (.tuple ds), h, fun H G F H' G' F' s dis r => rp_keep s dis r, fun i H G r => ?_⟩
  obtain ⟨a', xs, e, hs, hr⟩ := rtup r
  cases e
  refine ⟨fun d hd => ?_, fun hl => ⟨xs, hs, by rw [dpAll_length hr]; exact hl⟩⟩
  obtain ⟨v, hv, hd⟩ := dpAll_get hr hd
  refine ⟨⟨xs, v, hs, hv⟩, fun x H' y => ?_⟩
  obtain ⟨e, y⟩ := y
  subst e
  rw [sqT_one hs hv y]
  exact ⟨same_refl _, hd⟩
theorem rangeD_length : ∀ (n : Nat) (lo : Int), (rangeD lo n).length = n
  | 0, _ => rfl
  | n + 1, lo => by rw [rangeD, List.length_cons, rangeD_length n]
theorem rangeD_get : ∀ (n : Nat) (lo : Int) (i : Nat) (d : D), (rangeD lo n)[i]? = some d → i < n ∧ d = .int (lo + i)
  | 0, lo, i, d, h => by simp [rangeD] at h
  | n + 1, lo, 0, d, h => by
    simp [rangeD] at h
    exact ⟨Nat.succ_pos _, by rw [← h]; simp⟩
  | n + 1, lo, i + 1, d, h => by
    obtain ⟨h1, h2⟩ := rangeD_get n (lo + 1) i d (by simpa [rangeD] using h)
    refine ⟨Nat.succ_lt_succ h1, ?_⟩
    rw [h2]; congr 1; omega
theorem src_rng {lo : Int} {n : Nat} : Src K (Itr lo n) (rangeD lo n) H G := by
  refine ⟨fun _ _ => True, trivial, fun _ _ _ _ _ _ _ _ _ => trivial, fun i H G _ => ⟨fun d hd => ?_, fun hl => by rw [rangeD_length] at hl; exact hl⟩⟩
  obtain ⟨h1, rfl⟩ := rangeD_get n lo i d hd
  refine ⟨h1, fun x H' y => ?_⟩
  obtain ⟨e1, e2⟩ := y
  subst e1 e2
  exact ⟨same_refl _, .int _⟩
theorem enumFrom_get : ∀ (ds : List D) (n i : Nat) (d : D), (enumFrom n ds)[i]? = some d → ∃ e, ds[i]? = some e ∧ d = .tuple [.int ((n + i : Nat) : Int), e]
  | [], _, i, d, h => by simp [enumFrom] at h
  | e :: ds, n, 0, d, h => by
    simp [enumFrom] at h
    exact ⟨e, rfl, by rw [← h]; simp⟩
  | e :: ds, n, i + 1, d, h => by
    obtain ⟨e', h1, h2⟩ := enumFrom_get ds (n + 1) i d (by simpa [enumFrom] using h)
    refine ⟨e', by simpa using h1, ?_⟩
    rw [h2, show n + 1 + i = n + (i + 1) by omega]
theorem enumFrom_length : ∀ (ds : List D) (n : Nat), (enumFrom n ds).length = ds.length
  | [], _ => rfl
  | d :: ds, n => by rw [enumFrom, List.length_cons, List.length_cons, enumFrom_length ds]
theorem new_pair {T : Addr} {x y : V} {dx dy : D} (hT : H T = none) (hx : Rp K H G x dx) (hy : Rp K H G y dy) : Same H (upd H T (.tup [x, y])) ∧ Rp K (upd H T (.tup [x, y])) G (.ref T) (.tuple [dx, dy]) := by
  have s := same_upd (o := .tup [x, y]) hT
  exact ⟨s, tup_r (SqT.of upd_same) (.cons (dp_mono (same_sub s) _ _ hx) (.cons (dp_mono (same_sub s) _ _ hy) .nil))⟩
theorem src_enum {a : Addr} {ds : List D} (h : Rp K H G (.ref a) (.list ds)) : Src K (Ite K a) (enumFrom 0 ds) H G := by
  refine ⟨fun H G => Rp K H G (.ref a) (.list ds), h, fun H G F H' G' F' s dis r => rp_keep s dis r, fun i H G r => ?_⟩
  obtain ⟨a', xs, e, hs, hr⟩ := rlist r
  cases e
  refine ⟨fun d hd => ?_, fun hl => ⟨xs, hs, by rw [dpAll_length hr]; rw [enumFrom_length] at hl; exact hl⟩⟩
  obtain ⟨e, he, rfl⟩ := enumFrom_get ds 0 i d hd
  obtain ⟨v, hv, hd⟩ := dpAll_get hr he
  refine ⟨⟨xs, v, hs, hv⟩, fun x H' y => ?_⟩
  obtain ⟨T, z, e1, hT, e2, y⟩ := y
  subst e1 e2
  rw [sqL_one hs hv y]
  have := new_pair (x := .int (i : Nat)) (y := v) (K := K) (G := G) hT (.int _) hd
  rw [Nat.zero_add]
  exact this
theorem src_enumT {a : Addr} {ds : List D} (h : Rp K H G (.ref a) (.tuple ds)) : Src K (IteT K a) (enumFrom 0 ds) H G := by
  refine ⟨fun H G => Rp K H G (.ref a) (.tuple ds), h, fun H G F H' G' F' s dis r => rp_keep s dis r, fun i H G r => ?_⟩
  obtain ⟨a', xs, e, hs, hr⟩ := rtup r
  cases e
  refine ⟨fun d hd => ?_, fun hl => ⟨xs, hs, by rw [dpAll_length hr]; rw [enumFrom_length] at hl; exact hl⟩⟩
  obtain ⟨e, he, rfl⟩ := enumFrom_get ds 0 i d hd
  obtain ⟨v, hv, hd⟩ := dpAll_get hr he
  refine ⟨⟨xs, v, hs, hv⟩, fun x H' y => ?_⟩
  obtain ⟨T, z, e1, hT, e2, y⟩ := y
  subst e1 e2
  rw [sqT_one hs hv y]
  have := new_pair (x := .int (i : Nat)) (y := v) (K := K) (G := G) hT (.int _) hd
  rw [Nat.zero_add]
  exact this
theorem zipD_get : ∀ (as bs : List D) (i : Nat) (d : D), (zipD as bs)[i]? = some d → ∃ x y, as[i]? = some x ∧ bs[i]? = some y ∧ d = .tuple [x, y]
  | [], _, i, d, h => by simp [zipD] at h
  | _ :: _, [], i, d, h => by simp [zipD] at h
  | a :: as, b :: bs, 0, d, h => by
    simp [zipD] at h
    exact ⟨a, b, rfl, rfl, h.symm⟩
  | a :: as, b :: bs, i + 1, d, h => by
    obtain ⟨x, y, h1, h2, h3⟩ := zipD_get as bs i d (by simpa [zipD] using h)
    exact ⟨x, y, by simpa using h1, by simpa using h2, h3⟩
theorem zipD_length : ∀ (as bs : List D) (i : Nat), (zipD as bs).length ≤ i → as.length ≤ i ∨ bs.length ≤ i
  | [], _, i, h => .inl (Nat.zero_le _)
  | _ :: _, [], i, h => .inr (Nat.zero_le _)
  | a :: as, b :: bs, i, h => by
    rw [zipD, List.length_cons] at h
    cases i with
    | zero => omega
    | succ i =>
      rcases zipD_length as bs i (by omega) with z | z
      · exact .inl (by simpa using z)
      · exact .inr (by simpa using z)
theorem src_zip {a b : Addr} {ds es : List D} (h : Rp K H G (.ref a) (.list ds)) (h2 : Rp K H G (.ref b) (.list es)) : Src K (Itz K a b) (zipD ds es) H G := by
  refine ⟨fun H G => Rp K H G (.ref a) (.list ds) ∧ Rp K H G (.ref b) (.list es), ⟨h, h2⟩, fun H G F H' G' F' s dis r => ⟨rp_keep s dis r.1, rp_keep s dis r.2⟩, fun i H G r => ?_⟩
  obtain ⟨r, r'⟩ := r
  obtain ⟨_, xs, e, hs, hr⟩ := rlist r
  cases e
  obtain ⟨_, ys, e, hs', hr'⟩ := rlist r'
  cases e
  refine ⟨fun d hd => ?_, fun hl => ⟨xs, ys, hs, hs', by rw [dpAll_length hr, dpAll_length hr']; exact zipD_length _ _ _ hl⟩⟩
  obtain ⟨x, y, hx, hy, rfl⟩ := zipD_get ds es i d hd
  obtain ⟨v, hv, hd⟩ := dpAll_get hr hx
  obtain ⟨w, hw, hd'⟩ := dpAll_get hr' hy
  refine ⟨⟨xs, ys, v, w, hs, hs', hv, hw⟩, fun x H' y => ?_⟩
  obtain ⟨T, z1, z2, e1, hT, e2, y1, y2⟩ := y
  subst e1 e2
  rw [sqL_one hs hv y1, sqL_one hs' hw y2]
  exact new_pair hT hd hd'
theorem src_zipT {a b : Addr} {ds es : List D} (h : Rp K H G (.ref a) (.tuple ds)) (h2 : Rp K H G (.ref b) (.tuple es)) : Src K (RZ.ItzT K a b) (zipD ds es) H G := by
  refine ⟨fun H G => Rp K H G (.ref a) (.tuple ds) ∧ Rp K H G (.ref b) (.tuple es), ⟨h, h2⟩, fun H G F H' G' F' s dis r => ⟨rp_keep s dis r.1, rp_keep s dis r.2⟩, fun i H G r => ?_⟩
  obtain ⟨r, r'⟩ := r
  obtain ⟨_, xs, e, hs, hr⟩ := rtup r
  cases e
  obtain ⟨_, ys, e, hs', hr'⟩ := rtup r'
  cases e
  refine ⟨fun d hd => ?_, fun hl => ⟨xs, ys, hs, hs', by rw [dpAll_length hr, dpAll_length hr']; exact zipD_length _ _ _ hl⟩⟩
  obtain ⟨x, y, hx, hy, rfl⟩ := zipD_get ds es i d hd
  obtain ⟨v, hv, hd⟩ := dpAll_get hr hx
  obtain ⟨w, hw, hd'⟩ := dpAll_get hr' hy
  refine ⟨⟨xs, ys, v, w, hs, hs', hv, hw⟩, fun x H' y => ?_⟩
  obtain ⟨T, z1, z2, e1, hT, e2, y1, y2⟩ := y
  subst e1 e2
  rw [sqT_one hs hv y1, sqT_one hs' hw y2]
  exact new_pair hT hd hd'
end
/-- a row, a list or a tuple -/
theorem pi_row {X : Cx} {tg : Expr} {l : Expr} {tl : TE} (hl : PE X l tl) : PI X tg l (fun σ H R => tl σ H fun x H1 => ∃ a, x = .ref a ∧ (((∃ xs, SqL X.K H1 a xs) ∧ R (Itl X.K a) H1) ∨ ((∃ xs, SqT X.K H1 a xs) ∧ R (Itt X.K a) H1))) := by
  refine ⟨fun pins s σ H R I h => ?_⟩
  refine thn (hl.run pins s σ H _ I h) fun v s1 ⟨x, H1, I1, r1, q1⟩ => ?_
  obtain ⟨a, e, ⟨⟨xs, hq⟩, q⟩ | ⟨⟨xs, hq⟩, q⟩⟩ := q1
  · subst e
    cases r1
    obtain ⟨its, rv, p, hz⟩ := I1.list hq
    refine wpAny_pyIter_list p.isList ?_
    refine ⟨s1.heap.objs.size, [s1.heap.objs.size], _, _, H1, rfl, I1.kept (t' := s1.toks) fun b o e => Heap.get?_push_of_some _ e, turn_list a _, ⟨_, Heap.get?_push_size _ rfl, rfl, rfl⟩, fun b hb => ?_, q⟩
    have e : b = s1.heap.objs.size := by simpa using hb
    subst e
    exact I1.fpOk (Nat.le_refl _) (I1.hok.fresh (Nat.le_refl _))
  · subst e
    cases r1
    obtain ⟨its, rv, p, hz⟩ := I1.tuple hq
    refine wpAny_pyIter_tuple (show s1.heap.IsTuple a its.toArray from p) ?_
    refine ⟨s1.heap.objs.size, [s1.heap.objs.size], _, _, H1, rfl, I1.kept (t' := s1.toks) fun b o e => Heap.get?_push_of_some _ e, turn_tuple a _, ⟨_, Heap.get?_push_size _ rfl, rfl, rfl⟩, fun b hb => ?_, q⟩
    have e : b = s1.heap.objs.size := by simpa using hb
    subst e
    exact I1.fpOk (Nat.le_refl _) (I1.hok.fresh (Nat.le_refl _))
section
variable (c : Ct) (N : List Str)
def SI (sc : Scope) (fn : Str → Bool) (tg e : Expr) (a : CI) : Prop := ∀ X W, CtxOk c X W N sc fn → ∀ env σ H G fps out R, EnvR c.K env σ H G fps → evalI c.Γ a env = some out → GI c W σ H G fps (noeffi a) R out → tI X tg e σ H R
end
section
variable {c : Ct} {N : List Str} {sc : Scope} {fn : Str → Bool} {tg : Expr}
theorem rng_ok {n : Int} (h : rngOk n = true) : -(2 ^ 62) ≤ n ∧ n < 2 ^ 62 := by
  rw [rngOk_def] at h
  rw [Bool.and_eq_true] at h
  exact ⟨of_decide_eq_true h.1, of_decide_eq_true h.2⟩
theorem si_of {e : Expr} {a : CE} (h : SE c N sc fn e a) : SI c N sc fn tg e (.of a) := by
  intro X W ok env σ H G fps out R E he hq
  simp only [evalI_of] at he
  refine tI_of (pi_row (peS X e)) ?_
  rcases bnd_ways he with ⟨p, env1, e1, he⟩ | ⟨y, env1, e1, rfl⟩
  · refine h X W ok env σ H G fps _ _ E e1 fun v H1 G1 fps1 fpt1 a1 r1 s1 => ?_
    rcases bnd_ways he with ⟨d, env2, e2, he⟩ | ⟨y, env2, e2, rfl⟩
    · obtain ⟨G2, fps2, a2, r2⟩ := frz_ok a1 r1 e2
      cases d <;> try cases he
      · obtain ⟨b, xs, rfl, hs, _⟩ := rlist r2
        rw [ok.eK]
        exact ⟨b, rfl, .inl ⟨⟨xs, hs⟩, hq _ H1 G2 fps2 a2 (src_list r2) s1⟩⟩
      · obtain ⟨b, xs, rfl, hs, _⟩ := rtup r2
        rw [ok.eK]
        exact ⟨b, rfl, .inr ⟨⟨xs, hs⟩, hq _ H1 G2 fps2 a2 (src_tup r2) s1⟩⟩
    · exact (frz_not e2).elim
  · exact h X W ok env σ H G fps _ _ E e1 fun cls d H1 G1 fps1 a1 x1 => hq cls d H1 G1 fps1 a1 x1
theorem si_rng {e : Expr} {a : CE} {p pos : Pos} (hg : glB sc "range" = true) (hs : isStar e = false) (h : SE c N sc fn e a) : SI c N sc fn tg (.Call (.Name "range" p) [e] [] pos) (.rng a) := by
  intro X W ok env σ H G fps out R E he hq
  simp only [evalI_rng] at he
  refine tI_of (pi_range1 (ok.gl hg) (ok.bl (by decide +kernel)) (pa_cons (peS X e) pa_nil (star_ok hs _ X.env)) (star_ok hs _ X.env)) ?_
  rcases bnd_ways he with ⟨p, env1, e1, he⟩ | ⟨y, env1, e1, rfl⟩
  · refine h X W ok env σ H G fps _ _ E e1 fun v H1 G1 fps1 fpt1 a1 r1 s1 => ?_
    split at he
    · rename_i n f1
      split at he
      · rename_i hn
        cases he
        have := rint (pr_flat a1.E r1 f1)
        subst this
        exact ⟨n, rfl, (rng_ok hn).1, (rng_ok hn).2, hq _ H1 G1 fps1 a1.drop src_rng s1⟩
      · cases he
    · cases he
  · exact h X W ok env σ H G fps _ _ E e1 fun cls d H1 G1 fps1 a1 x1 => hq cls d H1 G1 fps1 a1 x1
theorem si_rng2 {e e' : Expr} {a b : CE} {p pos : Pos} (hg : glB sc "range" = true) (hs : isStar e = false) (hs' : isStar e' = false) (h : SE c N sc fn e a) (h' : SE c N sc fn e' b) : SI c N sc fn tg (.Call (.Name "range" p) [e, e'] [] pos) (.rng2 a b) := by
  intro X W ok env σ H G fps out R E he hq
  simp only [evalI_rng2] at he
  refine tI_of (pi_range2 (ok.gl hg) (ok.bl (by decide +kernel)) (pa_cons (peS X e) (pa_cons (peS X e') pa_nil (star_ok hs' _ X.env)) (star_ok hs _ X.env)) (by rw [star_ok hs, star_ok hs']; rfl) (star_ok hs' _ X.env)) ?_
  rcases bnd_ways he with ⟨p1, env1, e1, he⟩ | ⟨y, env1, e1, rfl⟩
  · refine h X W ok env σ H G fps _ _ E e1 fun v H1 G1 fps1 fpt1 a1 r1 s1 => ?_
    rcases bnd_ways he with ⟨p2, env2, e2, he⟩ | ⟨y, env2, e2, rfl⟩
    · refine h' X W ok env1 σ H1 G1 fps1 _ _ a1.E e2 fun v2 H2 G2 fps2 fpt2 a2 r2 s2 => ?_
      split at he
      · rename_i m n f1 f2
        split at he
        · rename_i hn
          cases he
          have z2 := rint (pr_flat a2.E r2 f2)
          subst z2
          -- the first operand is an int, whatever happened behind it
          have z1 : v = .int m := by
            cases p1 with
            | val o =>
              cases o with
              | fz d => cases f1; exact rint r1.2
              | lst ds => cases f1
              | dct kvs => cases f1
              | kd kvs => cases f1
            | plc i =>
              obtain ⟨_, hv⟩ := r1
              have f1' : (slot env2 i).bind O.flat = some (.int m) := f1
              cases hso : slot env2 i with
              | none => rw [hso] at f1'; cases f1'
              | some o =>
                rw [hso] at f1'
                obtain ⟨w, hw, ho⟩ := a2.E.rep i o hso
                rw [hv] at hw
                cases hw
                exact rint (ow_flat ho f1')
            | plf i k =>
              unfold flatP at f1
              simp only at f1
              split at f1
              · split at f1 <;> cases f1
              · cases f1
          subst z1
          exact ⟨m, n, rfl, (have hn := Bool.and_eq_true _ _ ▸ hn; ⟨(rng_ok hn.1).1, (rng_ok hn.1).2, (rng_ok hn.2).1, (rng_ok hn.2).2⟩), hq _ H2 G2 fps2 (a1.next a2).drop src_rng fun hn => by
            simp only [noeffi_rng2, Bool.and_eq_true] at hn
            exact (s1 hn.1).trans (s2 hn.2)⟩
        · cases he
      · cases he
    · exact h' X W ok env1 σ H1 G1 fps1 _ _ a1.E e2 fun cls d H3 G3 fps3 a3 x3 => hq cls d H3 G3 fps3 (a1.next a3) x3
  · exact h X W ok env σ H G fps _ _ E e1 fun cls d H1 G1 fps1 a1 x1 => hq cls d H1 G1 fps1 a1 x1
theorem si_enum {e : Expr} {a : CE} {p pos tpos : Pos} {elts : List Expr} {kk : Nat} (hg : glB sc "enumerate" = true) (hs : isStar e = false) (h : SE c N sc fn e a) : SI c N sc fn (.Tuple elts kk tpos) (.Call (.Name "enumerate" p) [e] [] pos) (.enum a) := by
  intro X W ok env σ H G fps out R E he hq
  simp only [evalI_enum] at he
  refine tI_of (pi_enumLT (ok.gl hg) (ok.bl (by decide +kernel)) (pa_cons (peS X e) pa_nil (star_ok hs _ X.env)) (star_ok hs _ X.env)) ?_
  rcases bnd_ways he with ⟨p, env1, e1, he⟩ | ⟨y, env1, e1, rfl⟩
  · refine h X W ok env σ H G fps _ _ E e1 fun v H1 G1 fps1 fpt1 a1 r1 s1 => ?_
    rcases bnd_ways he with ⟨d, env2, e2, he⟩ | ⟨y, env2, e2, rfl⟩
    · obtain ⟨G2, fps2, a2, r2⟩ := frz_ok a1 r1 e2
      split at he
      · cases he
        obtain ⟨b, xs, rfl, hs, _⟩ := rlist r2
        rw [ok.eK]
        exact ⟨b, rfl, .inl ⟨⟨xs, hs⟩, hq _ H1 G2 fps2 a2 (src_enum r2) s1⟩⟩
      · cases he
        obtain ⟨b, xs, rfl, hs, _⟩ := rtup r2
        rw [ok.eK]
        exact ⟨b, rfl, .inr ⟨⟨xs, hs⟩, hq _ H1 G2 fps2 a2 (src_enumT r2) s1⟩⟩
      · cases he
    · exact (frz_not e2).elim
  · exact h X W ok env σ H G fps _ _ E e1 fun cls d H1 G1 fps1 a1 x1 => hq cls d H1 G1 fps1 a1 x1
theorem si_zip {e e' : Expr} {a b : CE} {p pos tpos : Pos} {elts : List Expr} {kk : Nat} (hg : glB sc "zip" = true) (hs : isStar e = false) (hs' : isStar e' = false) (h : SE c N sc fn e a) (h' : SE c N sc fn e' b) : SI c N sc fn (.Tuple elts kk tpos) (.Call (.Name "zip" p) [e, e'] [] pos) (.zip a b) := by
  intro X W ok env σ H G fps out R E he hq
  simp only [evalI_zip] at he
  refine tI_of (RZ.pi_zipA (ok.gl hg) (ok.bl (by decide +kernel)) (pa_cons (peS X e) (pa_cons (peS X e') pa_nil (star_ok hs' _ X.env)) (star_ok hs _ X.env)) (star_ok hs _ X.env) (by rw [star_ok hs']; rfl)) ?_
  rcases bnd_ways he with ⟨p1, env1, e1, he⟩ | ⟨y, env1, e1, rfl⟩
  · refine h X W ok env σ H G fps _ _ E e1 fun v H1 G1 fps1 fpt1 a1 r1 s1 => ?_
    rcases bnd_ways he with ⟨d, env1b, e1b, he⟩ | ⟨y, env2, e2, rfl⟩
    · obtain ⟨G1b, fps1b, a1b, r1b⟩ := frz_ok a1 r1 e1b
      rcases bnd_ways he with ⟨p2, env2, e2, he⟩ | ⟨y, env2, e2, rfl⟩
      · refine h' X W ok env1b σ H1 G1b fps1b _ _ a1b.E e2 fun v2 H2 G2 fps2 fpt2 a2 r2 s2 => ?_
        rcases bnd_ways he with ⟨d2, env3, e3, he⟩ | ⟨y, env3, e3, rfl⟩
        · obtain ⟨G3, fps3, a3, r3⟩ := frz_ok a2 r2 e3
          have r1c := a1b.frame a3 r1b
          have sm : (noeffi (.zip a b)) = true → Same H H2 := fun hn => by
            simp only [noeffi_zip, Bool.and_eq_true] at hn
            exact (s1 hn.1).trans (s2 hn.2)
          split at he
          · cases he
            obtain ⟨b1, xs, rfl, hs1, _⟩ := rlist r1c
            obtain ⟨b2, ys, rfl, hs2, _⟩ := rlist r3
            rw [ok.eK]
            exact ⟨b1, b2, xs, ys, rfl, .inl ⟨hs1, hs2, hq _ H2 G3 fps3 (a1b.next a3) (src_zip r1c r3) sm⟩⟩
          · cases he
            obtain ⟨b1, xs, rfl, hs1, _⟩ := rtup r1c
            obtain ⟨b2, ys, rfl, hs2, _⟩ := rtup r3
            rw [ok.eK]
            exact ⟨b1, b2, xs, ys, rfl, .inr ⟨hs1, hs2, hq _ H2 G3 fps3 (a1b.next a3) (src_zipT r1c r3) sm⟩⟩
          · cases he
        · exact (frz_not e3).elim
      · exact h' X W ok env1b σ H1 G1b fps1b _ _ a1b.E e2 fun cls d H3 G3 fps3 a3 x3 => hq cls d H3 G3 fps3 (a1b.next a3) x3
    · exact (frz_not e2).elim
  · exact h X W ok env σ H G fps _ _ E e1 fun cls d H1 G1 fps1 a1 x1 => hq cls d H1 G1 fps1 a1 x1
end
end NW
end
section
set_option linter.all false
set_option maxRecDepth 100000
set_option maxHeartbeats 1000000
/-! NWk: targets, comprehensions -/
namespace NW
open PySem L2 PyProof.Rows
/-! ### stores -/
section
variable {K : PySem.W.Frag} {σ : L2.St} {H H0 : Hp} {G G0 : Addr → Prop} {fps fps0 : Fs} {env : Env}
theorem EnvR.put {i : Nat} {o : O} {v : V} {fp : List Addr} (E : EnvR K env σ H G fps) (r : Ow K H G o v fp) (off : ∀ b ∈ fp, ¬ FF fps b) :
    ∃ fps', EnvR K (env.set i (some o)) (σ.set i (some v)) H G fps' ∧ ∀ b, FF fps' b → FF fps b ∨ b ∈ fp := by
  by_cases hi : i < env.length
  · refine ⟨updF fps i fp, ⟨E.gh, by rw [List.length_set, List.length_set]; exact E.len, fun j o' hj => ?_, fun j hj => ?_, fun j k b hb hb' => ?_⟩, fun b ⟨j, hj⟩ => ?_⟩
    · rw [slot_set hi] at hj
      by_cases e : j = i
      · subst e
        rw [if_pos rfl] at hj
        cases hj
        exact ⟨v, List.getElem?_set_self (by rw [← E.len]; exact hi), by rw [updF_same]; exact r⟩
      · rw [if_neg e] at hj
        obtain ⟨w, hw, q⟩ := E.rep j o' hj
        exact ⟨w, by rw [List.getElem?_set_ne (Ne.symm e)]; exact hw, by rw [updF_ne e]; exact q⟩
    · rw [slot_set hi] at hj
      by_cases e : j = i
      · rw [if_pos e] at hj; cases hj
      · rw [if_neg e] at hj
        rw [updF_ne e]; exact E.emp j hj
    · unfold updF at hb hb'
      split at hb
      · rename_i e
        split at hb'
        · rename_i e'; rw [e, e']
        · exact (off b hb ⟨k, hb'⟩).elim
      · split at hb'
        · exact (off b hb' ⟨j, hb⟩).elim
        · exact E.dis j k b hb hb'
    · unfold updF at hj
      split at hj
      · exact .inr hj
      · exact .inl ⟨j, hj⟩
  · have h1 : env.length ≤ i := Nat.le_of_not_lt hi
    rw [List.set_eq_of_length_le h1, List.set_eq_of_length_le (by rw [← E.len]; exact h1)]
    exact ⟨fps, E, fun b hb => .inl hb⟩
theorem Aft.put {i : Nat} {o : O} {v : V} {fpt : List Addr} (a : Aft K σ H0 G0 fps0 env H G fps fpt) (r : Ow K H G o v fpt) :
    ∃ fps', EnvR K (env.set i (some o)) (σ.set i (some v)) H G fps' ∧ Step H0 G0 (FF fps0) H G (FF fps') := by
  obtain ⟨fps', E', hf⟩ := a.E.put (i := i) r a.off
  exact ⟨fps', E', a.S.keep, a.S.tups, a.S.frzs, a.S.gsub, a.S.gnew, fun b hb => (hf b hb).elim (a.S.fnew b) (a.new b)⟩
end
/-! ### targets -/
def gsT : List Nat → TGs
  | [] => gNil
  | i :: is => gCons (gName i) (gsT is)
def gT (K : PySem.W.Frag) : CT → TG
  | .name i => gName i
  | .tup l => gTup K l.length (gsT l)
def CT.slots : CT → List Nat
  | .name i => [i]
  | .tup l => l
section
variable {c : Ct} {N : List Str} {sc : Scope} {fn : Str → Bool}
theorem each_names (env : PySem.Env) : ∀ {l : List Nat} {es : List Expr}, mNames N sc fn l es = true → assignEach es env = es.map (fun e => (false, assign e env)) ∧ es.length = l.length
  | [], [], _ => ⟨rfl, rfl⟩
  | i :: is, .Name x p :: es, h => by
    simp only [mNames, Bool.and_eq_true] at h
    obtain ⟨h1, h2⟩ := each_names env h.2
    exact ⟨by rw [List.map_cons, ← h1]; rfl, by rw [List.length_cons, List.length_cons, h2]⟩
  | [], _ :: _, h => by cases h
  | i :: is, [], h => by cases h
theorem pgs_names {X : Cx} {W : WX} (ok : CtxOk c X W N sc fn) : ∀ {l : List Nat} {es : List Expr}, mNames N sc fn l es = true → PGs X es (gsT l)
  | [], [], _ => pgs_nil
  | i :: is, .Name x p :: es, h => by
    simp only [mNames, Bool.and_eq_true, decide_eq_true_eq] at h
    obtain ⟨h1, h2⟩ := tgB_ok h.1.2
    exact pgs_cons (pg_name (by rw [ok.eN]; exact ok.nd) (by rw [ok.eN]; exact h.1.1) (by rw [ok.eS]; exact h1) (by rw [ok.eF, ok.eS]; exact h2)) (pgs_names ok h.2) rfl
  | [], _ :: _, h => by cases h
  | i :: is, [], h => by cases h
theorem findIdx_none {α : Type} (es : List α) (f : α → Value → Sem Unit) : (es.map (fun e => (false, f e))).findIdx? (·.1) = none := by
  induction es with
  | nil => rfl
  | cons e es ih => simp [List.findIdx?_cons]
theorem pg_T {X : Cx} {W : WX} (ok : CtxOk c X W N sc fn) {t : CT} {tg : Expr} (h : mT N sc fn t tg = true) : PG X tg (gT X.K t) := by
  unfold mT at h
  split at h
  · simp only [Bool.and_eq_true, decide_eq_true_eq] at h
    obtain ⟨h1, h2⟩ := tgB_ok h.2
    exact pg_name (by rw [ok.eN]; exact ok.nd) (by rw [ok.eN]; exact h.1) (by rw [ok.eS]; exact h1) (by rw [ok.eF, ok.eS]; exact h2)
  · obtain ⟨h1, h2⟩ := each_names X.env h
    exact pg_tup ok.calm (pgs_names ok h) (by rw [h1, List.length_map, h2]) (by rw [h1]; exact findIdx_none _ _)
  · cases h
variable {K : PySem.W.Frag}
theorem gsT_ok : ∀ {l : List Nat} {vs : List V} {ds : List D} {σ : L2.St} {H : Hp} {G : Addr → Prop} {fps : Fs} {env env2 : Env} {Q : L2.St → Hp → Prop}, EnvR K env σ H G fps → RpA K H G vs ds → setAll env l ds = some env2 →
    (∀ σ2 fps2, EnvR K env2 σ2 H G fps2 → (∀ b, FF fps2 b → FF fps b) → (∀ j, j ∉ l → σ2[j]? = σ[j]?) → σ2.length = σ.length → Q σ2 H) → gsT l vs σ H Q
  | [], vs, [], σ, H, G, fps, env, env2, Q, E, r, e, q => by
    cases e
    cases r
    exact ⟨rfl, q σ fps E (fun _ h => h) (fun _ _ => rfl) rfl⟩
  | i :: l, vs, d :: ds, σ, H, G, fps, env, env2, Q, E, r, e, q => by
    cases r with
    | cons r1 r2 =>
      obtain ⟨fps', E', hf⟩ := E.put (i := i) (o := .fz d) (fp := []) ⟨rfl, r1⟩ (fun b hb => nomatch hb)
      refine ⟨_, _, rfl, ?_⟩
      refine gsT_ok E' r2 e fun σ2 fps2 E2 h2 h3 h4 => ?_
      refine q σ2 fps2 E2 (fun b hb => (hf b (h2 b hb)).elim id fun z => nomatch z) (fun j hj => ?_) (by rw [h4, List.length_set])
      rw [List.mem_cons, not_or] at hj
      rw [h3 j hj.2, List.getElem?_set_ne (Ne.symm hj.1)]
  | [], vs, d :: ds, σ, H, G, fps, env, env2, Q, E, r, e, q => by cases e
  | i :: l, vs, [], σ, H, G, fps, env, env2, Q, E, r, e, q => by cases e
theorem setAll_len : ∀ {l : List Nat} {ds : List D} {env env2 : Env}, setAll env l ds = some env2 → ds.length = l.length
  | [], [], _, _, _ => rfl
  | _ :: l, _ :: ds, env, env2, e => by rw [List.length_cons, List.length_cons, setAll_len (l := l) (ds := ds) e]
  | [], _ :: _, _, _, e => by cases e
  | _ :: _, [], _, _, e => by cases e
theorem gT_ok {t : CT} {v : V} {d : D} {σ : L2.St} {H : Hp} {G : Addr → Prop} {fps : Fs} {env env2 : Env} {Q : L2.St → Hp → Prop} (E : EnvR K env σ H G fps) (r : Rp K H G v d) (e : setT t d env = some env2)
    (q : ∀ σ2 fps2, EnvR K env2 σ2 H G fps2 → (∀ b, FF fps2 b → FF fps b) → (∀ j, j ∉ t.slots → σ2[j]? = σ[j]?) → σ2.length = σ.length → Q σ2 H) : gT K t v σ H Q := by
  cases t with
  | name i =>
    cases e
    obtain ⟨fps', E', hf⟩ := E.put (i := i) (o := .fz d) (fp := []) ⟨rfl, r⟩ (fun b hb => nomatch hb)
    refine q _ fps' E' (fun b hb => (hf b hb).elim id fun z => nomatch z) (fun j hj => ?_) (List.length_set ..)
    have : j ≠ i := by simpa [CT.slots] using hj
    rw [List.getElem?_set_ne (Ne.symm this)]
  | tup l =>
    cases d <;> try cases e
    rename_i ds
    obtain ⟨a, xs, rfl, hs, hr⟩ := rtup r
    refine ⟨a, xs, rfl, hs, ?_, gsT_ok E hr e q⟩
    rw [dpAll_length hr]
    exact setAll_len e
end
/-! ### slots forgotten, slots back -/
theorem wipe_get (σ : L2.St) (j : Nat) : ∀ own : List Nat, (wipe σ own)[j]? = if j ∈ own then (if j < σ.length then some none else none) else σ[j]?
  | [] => by simp [wipe]
  | i :: own => by
    unfold wipe
    by_cases e : i = j
    · subst e
      by_cases hl : i < σ.length
      · rw [List.getElem?_set_self (by rw [wipe_length]; exact hl)]; simp [hl]
      · rw [List.getElem?_eq_none (by rw [List.length_set, wipe_length]; omega)]; simp [hl]
    · rw [List.getElem?_set_ne e, wipe_get σ j own]
      have : (j ∈ i :: own) ↔ j ∈ own := by rw [List.mem_cons]; exact ⟨fun h => h.resolve_left (fun z => e z.symm), .inr⟩
      simp only [this]
theorem wipe_ext {σ σ2 : L2.St} {own : List Nat} (hl : σ2.length = σ.length) (h : ∀ j, j ∉ own → σ2[j]? = σ[j]?) : wipe σ2 own = wipe σ own := by
  apply List.ext_getElem?
  intro j
  rw [wipe_get, wipe_get, hl]
  split
  · rfl
  · rename_i hj; exact h j hj
theorem wipeE_len (env : Env) : ∀ own : List Nat, (wipeE env own).length = env.length
  | [] => rfl
  | i :: own => by unfold wipeE; rw [List.length_set, wipeE_len env own]
theorem slot_ge {env : Env} {j : Nat} (h : env.length ≤ j) : slot env j = none := by
  unfold slot
  rw [List.getElem?_eq_none h]; rfl
theorem slot_wipe (env : Env) (j : Nat) : ∀ own : List Nat, slot (wipeE env own) j = if j ∈ own then none else slot env j
  | [] => by simp [wipeE]
  | i :: own => by
    unfold wipeE
    by_cases hl : i < env.length
    · rw [slot_set (by rw [wipeE_len]; exact hl), slot_wipe env j own]
      by_cases e : j = i
      · simp [e]
      · simp [e]
    · rw [List.set_eq_of_length_le (by rw [wipeE_len]; omega), slot_wipe env j own]
      by_cases e : j = i
      · subst e
        rw [slot_ge (Nat.le_of_not_lt hl)]; simp
      · simp [e]
theorem backE_len (env env2 : Env) : ∀ own : List Nat, (backE env env2 own).length = env2.length
  | [] => rfl
  | i :: own => by unfold backE; rw [List.length_set, backE_len env env2 own]
theorem slot_back {env env2 : Env} (hl : env.length = env2.length) (j : Nat) : ∀ own : List Nat, slot (backE env env2 own) j = if j ∈ own then slot env j else slot env2 j
  | [] => by simp [backE]
  | i :: own => by
    unfold backE
    by_cases h : i < env2.length
    · rw [slot_set (by rw [backE_len]; exact h), slot_back hl j own]
      by_cases e : j = i
      · simp [e]
      · simp [e]
    · rw [List.set_eq_of_length_le (by rw [backE_len]; omega), slot_back hl j own]
      by_cases e : j = i
      · subst e
        rw [slot_ge (env := env) (by omega), slot_ge (env := env2) (by omega)]; simp
      · simp [e]
section
variable {K : PySem.W.Frag} {σ : L2.St} {H H' : Hp} {G G' : Addr → Prop} {fps fps' : Fs} {env env2 : Env}
theorem fr_emp (E : EnvR K env σ H G fps) {i : Nat} (h : frOk env i = true) : fps i = [] := by
  unfold frOk at h
  split at h
  · rename_i e; exact E.emp i e
  · rename_i d e
    obtain ⟨v, _, hv⟩ := E.rep i _ e
    exact hv.1
  · cases h
theorem EnvR.wipe (E : EnvR K env σ H G fps) {own : List Nat} (h : own.all (frOk env) = true) : EnvR K (wipeE env own) (L2.wipe σ own) H G fps := by
  rw [List.all_eq_true] at h
  refine ⟨E.gh, by rw [wipeE_len, wipe_length]; exact E.len, fun j o hj => ?_, fun j hj => ?_, E.dis⟩
  · rw [slot_wipe] at hj
    split at hj
    · cases hj
    · rename_i hn
      obtain ⟨v, hv, r⟩ := E.rep j o hj
      exact ⟨v, by rw [wipe_get, if_neg hn]; exact hv, r⟩
  · rw [slot_wipe] at hj
    split at hj
    · rename_i hm; exact fr_emp E (h j hm)
    · exact E.emp j hj
theorem EnvR.back (E : EnvR K env σ H G fps) {own : List Nat} (E2 : EnvR K env2 (L2.wipe σ own) H' G' fps') (S : Step H G (FF fps) H' G' (FF fps')) (h : own.all (frOk env) = true) (hn : ∀ j ∈ own, slot env2 j = none) : EnvR K (backE env env2 own) σ H' G' fps' := by
  rw [List.all_eq_true] at h
  have l2 := E2.len
  rw [wipe_length] at l2
  refine ⟨E2.gh, by rw [backE_len]; exact l2, fun j o hj => ?_, fun j hj => ?_, E2.dis⟩
  · rw [slot_back (by rw [E.len, l2])] at hj
    split at hj
    · rename_i hm
      have hf := h j hm
      unfold frOk at hf
      rw [hj] at hf
      cases o with
      | fz d =>
        obtain ⟨v, hv, _, r⟩ := E.rep j _ hj
        exact ⟨v, hv, E2.emp j (hn j hm), dp_mono (S.sub E.gf) _ _ r⟩
      | lst ds => cases hf
      | dct kvs => cases hf
      | kd kvs => cases hf
    · rename_i hm
      obtain ⟨v, hv, r⟩ := E2.rep j o hj
      rw [wipe_get, if_neg hm] at hv
      exact ⟨v, hv, r⟩
  · rw [slot_back (by rw [E.len, l2])] at hj
    split at hj
    · rename_i hm; exact E2.emp j (hn j hm)
    · exact E2.emp j hj
theorem Step.updNew {F F' : Addr → Prop} (S : Step H G F H' G' F') {b : Addr} (hb : H b = none) {o : HO} : Step H G F (upd H' b o) G' F' where
  keep := fun x u e nf => by rw [upd_ne (ne_of_none e hb)]; exact S.keep x u e nf
  tups := fun x xs e => by rw [upd_ne (ne_of_none e hb)]; exact S.tups x xs e
  frzs := fun x o u e => by rw [upd_ne (ne_of_none e hb)]; exact S.frzs x o u e
  gsub := S.gsub
  gnew := S.gnew
  fnew := S.fnew
theorem Same.updNew (s : Same H H') {b : Addr} (hb : H b = none) {o : HO} : Same H (upd H' b o) := fun x u e => by rw [upd_ne (ne_of_none e hb)]; exact s x u e
/-- one place is written that nobody reads as frozen -/
theorem step_ext {a : Addr} {o : HO} {φ : Heap → Prop} (hl : H a = some (.ext φ)) : Step H G (· = a) (upd H a o) G (· = a) where
  keep := fun x u e nf => by rw [upd_ne nf]; exact e
  tups := fun x xs e => by
    by_cases h : x = a
    · subst h; rw [hl] at e; cases e
    · rw [upd_ne h]; exact e
  frzs := fun x o' u e => by
    by_cases h : x = a
    · subst h; rw [hl] at e; cases e
    · rw [upd_ne h]; exact e
  gsub := fun _ h => h
  gnew := fun _ h => .inl h
  fnew := fun _ h => .inl h
theorem step_at {a : Addr} {o : HO} (hl : ∃ xs, H a = some (.lst xs) ∨ ∃ kvs, H a = some (.dK kvs)) : Step H G (· = a) (upd H a o) G (· = a) where
  keep := fun x u e nf => by rw [upd_ne nf]; exact e
  tups := fun x xs e => by
    by_cases h : x = a
    · subst h
      obtain ⟨ys, h | ⟨kvs, h⟩⟩ := hl <;> (rw [h] at e; cases e)
    · rw [upd_ne h]; exact e
  frzs := fun x o' u e => by
    by_cases h : x = a
    · subst h
      obtain ⟨ys, h | ⟨kvs, h⟩⟩ := hl <;> (rw [h] at e; cases e)
    · rw [upd_ne h]; exact e
  gsub := fun _ h => h
  gnew := fun _ h => .inl h
  fnew := fun _ h => .inl h
theorem gheld_upd {a : Addr} {o : HO} (g : GHeld H G) : GHeld (upd H a o) G := fun b hb => by
  by_cases h : b = a
  · subst h; exact ⟨o, upd_same⟩
  · obtain ⟨u, e⟩ := g b hb
    exact ⟨u, by rw [upd_ne h]; exact e⟩
end
/-! ### comprehensions -/
def fnB (scope : Scope) : Str → Bool := fun x => scope.names.lookup x == some .cell
def tTs (X : Cx) (ifs : List Expr) (σ : L2.St) (H : Hp) (Q : Bool → Hp → Prop) : Prop := ∀ pins s, Inv X pins σ H s → wpAny (model X.prog X.w) X.A (forIn ifs true fun c r => if r = true then do let ok ← isTrue c X.env (eval c X.env); pure (ForInStep.yield ok) else pure (ForInStep.yield r)) (TP X pins σ Q) X.xe s
theorem ptsS (X : Cx) (ifs : List Expr) : PTs X ifs (tTs X ifs) := ⟨fun pins s σ H Q I h => h pins s I⟩
theorem tTs_of {X : Cx} {ifs : List Expr} {t : TT} (h : PTs X ifs t) {σ : L2.St} {H : Hp} {Q : Bool → Hp → Prop} (q : t σ H Q) : tTs X ifs σ H Q := fun pins s I => h.run pins s σ H Q I q
def cT (X : Cx) (scope : Scope) (ifs : List Expr) : TT := fun σ H Q => ∀ (s : Shared) (H0 : Hp) (C : Addr) (cl : List (Str × Addr)) (fp : List Addr), tTs (X.blk s H0 scope (compEnvC scope cl C X.env) fp) ifs σ H Q
def cE (X : Cx) (scope : Scope) (el : Expr) : TE := fun σ H Q => ∀ (s : Shared) (H0 : Hp) (C : Addr) (cl : List (Str × Addr)) (fp : List Addr), tE (X.blk s H0 scope (compEnvC scope cl C X.env) fp) el σ H Q
section
variable (c : Ct) (N : List Str)
def SBs (sc : Scope) (fn : Str → Bool) (ifs : List Expr) (a : CB) : Prop := ∀ X W, CtxOk c X W N sc fn → ∀ env σ H G fps out Q, EnvR c.K env σ H G fps → evalT c.Γ a env = some out → GT c W σ H G fps (noeffb a) Q out → tTs X ifs σ H Q
end
section
variable {c : Ct} {N : List Str} {sc : Scope} {fn : Str → Bool}
theorem sbs_nil : SBs c N sc fn [] .yes := by
  intro X W ok env σ H G fps out Q E he hq
  simp only [evalT_yes] at he
  cases he
  exact tTs_of pts_nil (hq H G fps (Aft.refl E) fun _ => same_refl H)
theorem sbs_one {x : Expr} {a : CB} (h : SB c N sc fn x a) : SBs c N sc fn [x] a :=
  fun X W ok env σ H G fps out Q E he hq => tTs_of (pts_one (ptS X x)) (h X W ok env σ H G fps out Q E he hq)
def W0 : WX := fun _ _ _ _ => False
theorem CtxOk.blk {X : Cx} {W : WX} (ok : CtxOk c X W N sc fn) (scope : Scope) (s : Shared) (H : Hp) (C : Addr) (cl : List (Str × Addr)) (fp : List Addr) : CtxOk c (X.blk s H scope (compEnvC scope cl C X.env) fp) W0 N (relS scope sc) (fnB scope) where
  eK := ok.eK
  eM := ok.eM
  eN := ok.eN
  eS := by rw [← ok.eS]; rfl
  eF := rfl
  nd := ok.nd
  calm := ok.calm
  tk := fun _ _ x => by
    obtain ⟨_, _, _, _, _, _, _, _, _, _, _, _, _, _, _, _, z⟩ := x
    exact z.elim
  rm := ok.rm
  fns := ok.fns
  exs := ok.exs
  blt := ok.blt
  glob := ok.glob
/-- where a comprehension stands ahead of turn i -/
def CompI (K : PySem.W.Frag) (own : List Nat) (σ : L2.St) (turn : D → Env → Option (Out (Option D))) (items ds : List D) (env2 : Env) (R0 : Hp → (Addr → Prop) → Prop) (b : Addr) (H1 : Hp) (G1 : Addr → Prop) (fps1 : Fs) (ne : Bool) (i : Nat) (H : Hp) : Prop :=
  ∃ env G fps acc accv rest, EnvR K env (L2.wipe σ own) H G fps ∧ Step H1 G1 (FF fps1) H G (FF fps) ∧ H b = some (.lst accv) ∧ ¬ G b ∧ ¬ FF fps b ∧ RpA K H G accv acc ∧ compL turn (items.drop i) env = some (.ok rest env2) ∧ ds = acc ++ rest ∧ acc.length ≤ i ∧ R0 H G ∧ (∀ j ∈ own, slot env j = none) ∧ (ne = true → Same H1 H)
theorem compL_cons {turn : D → Env → Option (Out (Option D))} {d : D} {ds rest : List D} {env env2 : Env} (h : compL turn (d :: ds) env = some (.ok rest env2)) :
    ∃ o env3 r, turn d env = some (.ok o env3) ∧ compL turn ds env3 = some (.ok r env2) ∧ rest = o.toList ++ r := by
  unfold compL at h
  split at h
  · rename_i o env3 e
    split at h
    · rename_i r env4 e2
      split at h
      · cases h; exact ⟨_, _, _, e, e2, rfl⟩
      · cases h; exact ⟨_, _, _, e, e2, rfl⟩
    · cases h
  · cases h
theorem wipe_none {own : List Nat} {env : Env} : ∀ j ∈ own, slot (wipeE env own) j = none := fun j hj => by rw [slot_wipe, if_pos hj]
theorem tgIn_ok {own : List Nat} {t : CT} (h : tgIn own t = true) : ∀ j ∈ t.slots, j ∈ own := by
  cases t with
  | name i =>
    intro j hj
    have : j = i := by simpa [CT.slots] using hj
    subst this
    simpa [tgIn] using h
  | tup l =>
    intro j hj
    unfold tgIn at h
    rw [List.all_eq_true] at h
    simpa using h j hj
theorem wipeO_ok {own : List Nat} {r o : Option D} {e env3 : Env} (h : wipeO own r e = some (.ok o env3)) : own.all (frOk e) = true ∧ o = r ∧ env3 = wipeE e own := by
  unfold wipeO at h
  split at h
  · rename_i hw; cases h; exact ⟨hw, rfl, rfl⟩
  · cases h
theorem comp_ok {X : Cx} {W : WX} {own : List Nat} {t : CT} {src : CI} {cond : CB} {elt : CE} {el tg it : Expr} {ifs : List Expr} {scope : Scope} (ok : CtxOk c X W N sc fn) (hi : SI c N sc fn tg it src) (he : SE c N (relS scope sc) (fnB scope) el elt) (hc : SBs c N (relS scope sc) (fnB scope) ifs cond)
    {env : Env} {σ : L2.St} {H : Hp} {G : Addr → Prop} {fps : Fs} {out : Out P} {Q : VK} (E : EnvR c.K env σ H G fps) (hev : evalE c.Γ (.comp own t src cond elt) env = some out) (hq : GE c W σ H G fps (noeff (.comp own t src cond elt)) Q out) :
    tLc (tI X tg it) (gT X.K t) (cT X scope ifs) (cE X scope el) own σ H Q := by
  simp only [evalE_comp] at hev
  rcases bnd_ways hev with ⟨items, env1, e1, hev⟩ | ⟨y, env1, e1, rfl⟩
  rotate_left
  · exact hi X W ok env σ H G fps _ _ E e1 fun cls d H1 G1 fps1 a1 x1 => hq cls d H1 G1 fps1 a1 x1
  split at hev
  rotate_left
  · cases hev
  rename_i hg
  simp only [Bool.and_eq_true, decide_eq_true_eq] at hg
  obtain ⟨⟨hg1, hg2⟩, hg3⟩ := hg
  split at hev
  rotate_left
  · cases hev
  rename_i ds env2 hcl
  cases hev
  refine hi X W ok env σ H G fps _ _ E e1 fun J H1 G1 fps1 a1 src1 s1 => ?_
  obtain ⟨R0, r0, rst, rd⟩ := src1
  intro b hb
  have nG : ¬ G1 b := fun g => by obtain ⟨u, e⟩ := a1.E.gh b g; rw [hb] at e; cases e
  have nF : ¬ FF fps1 b := fun f => by obtain ⟨_, u, e⟩ := a1.E.held f; rw [hb] at e; cases e
  refine ⟨fun i m H' => m = items.length - i ∧ i ≤ items.length ∧ CompI c.K own σ (compTurn own (setT t) (evalT c.Γ cond) (evalE c.Γ elt)) items ds env2 R0 b H1 G1 fps1 (noeffb cond && noeff elt) i H', ⟨items.length, (Nat.sub_zero _).symm, Nat.zero_le _, ?_⟩, ?_⟩
  · have sm : Same H1 (upd H1 b (.lst [])) := same_upd hb
    exact ⟨_, G1, fps1, [], [], ds, (a1.E.wipe hg2).same sm, Same.stepF sm, upd_same, nG, nF, .nil, hcl, rfl, Nat.le_refl _, rst _ _ F0 _ _ F0 (Same.step sm) (fun _ _ f => f) r0, wipe_none, fun _ => sm⟩
  rintro i m H' ⟨rfl, hile, env', G', fps', acc, accv, rest, E', S', hbl, nG', nF', rA, hcl', hds, hal, r0', hno, hsm⟩
  by_cases hil : i < items.length
  rotate_left
  · -- the end
    have e : i = items.length := by omega
    subst e
    rw [List.drop_length] at hcl'
    cases hcl'
    rw [List.append_nil] at hds
    subst hds
    refine .inl ⟨(rd _ H' G' r0').2 (Nat.le_refl _), ?_⟩
    refine hq _ H' G' fps' [b] ⟨a1.E.back E' S' hg2 hno, a1.S.trans S', fun x hx => ?_, fun x hx => ?_⟩ ⟨b, accv, rfl, rfl, nG', hbl, rA⟩ fun hn => ?_
    · have : x = b := by simpa using hx
      subst this
      exact (a1.S.none_of hb).symm
    · have : x = b := by simpa using hx
      subst this
      exact nF'
    · simp only [noeff_comp, Bool.and_eq_true] at hn
      exact (s1 hn.1.1).trans (hsm (by simp [hn.1.2, hn.2]))
  · -- a turn
    rw [List.drop_eq_getElem_cons hil] at hcl'
    obtain ⟨o, env3, r, ht, hcl3, hrest⟩ := compL_cons hcl'
    obtain ⟨go, yl⟩ := (rd i H' G' r0').1 items[i] (List.getElem?_eq_getElem hil)
    refine .inr ⟨go, CompI c.K own σ (compTurn own (setT t) (evalT c.Γ cond) (evalE c.Γ elt)) items ds env2 R0 b H1 G1 fps1 (noeffb cond && noeff elt) (i + 1), fun H2 n2 => ⟨items.length - (i + 1), by omega, rfl, hil, n2⟩, fun x H2 y => ?_⟩
    obtain ⟨sm2, rx⟩ := yl x H2 y
    unfold compTurn at ht
    split at ht
    rotate_left
    · cases ht
    rename_i ea hea
    have hb2 : H2 b = some (.lst accv) := sm2 _ _ hbl
    rw [ok.eK]
    refine gT_ok (E'.same sm2) rx hea fun σ2 fps2 E2 hf2 hσ2 hl2 => ?_
    have hw : L2.wipe σ2 own = L2.wipe σ own := by
      have := wipe_ext (σ := L2.wipe σ own) (σ2 := σ2) (own := own) hl2 fun j hj => hσ2 j fun hm => hj (tgIn_ok hg1 j hm)
      rw [this]
      exact wipe_ext (wipe_length σ own) fun j hj => by rw [wipe_get, if_neg hj]
    refine ⟨hw, ?_⟩
    have S2 : Step H1 G1 (FF fps1) H2 G' (FF fps2) := by
      have z := S'.trans (Same.stepF sm2 (G := G') (F := FF fps'))
      exact ⟨z.keep, z.tups, z.frzs, z.gsub, z.gnew, fun x hx => z.fnew x (hf2 x hx)⟩
    have nF2 : ¬ FF fps2 b := fun f => nF' (hf2 b f)
    have rA2 : RpA c.K H2 G' accv acc := dpAll_mono (same_sub sm2) _ _ rA
    have r02 : R0 H2 G' := rst _ _ F0 _ _ F0 (Same.step sm2) (fun _ _ f => f) r0'
    -- behind the turn's work
    have fin : ∀ {ed : Env} {H4 : Hp} {G4 : Addr → Prop} {fps4 : Fs}, Aft c.K σ2 H2 G' fps2 ed H4 G4 fps4 [] → own.all (frOk ed) = true → env3 = wipeE ed own →
        (EnvR c.K env3 (L2.wipe σ own) H4 G4 fps4 ∧ Step H1 G1 (FF fps1) H4 G4 (FF fps4) ∧ H4 b = some (.lst accv) ∧ ¬ G4 b ∧ ¬ FF fps4 b ∧ RpA c.K H4 G4 accv acc ∧ R0 H4 G4) := fun {ed H4 G4 fps4} a4 hfr e3 => by
      subst e3
      have z := a4.E.wipe hfr
      rw [hw] at z
      refine ⟨z, S2.trans a4.S, a4.S.keep b _ hb2 nF2, fun g => ?_, fun f => ?_, dpAll_mono (a4.S.sub E2.gf) _ _ rA2, rst _ _ _ _ _ _ a4.S E2.gf r02⟩
      · rcases a4.S.gnew b g with z | z | z
        · exact nG' z
        · exact nF2 z
        · rw [hb2] at z; cases z
      · rcases a4.S.fnew b f with z | z
        · exact nF2 z
        · rw [hb2] at z; cases z
    intro s0 H00 C cl fp
    have okb := ok.blk scope s0 H00 C cl fp
    rcases bnd_ways ht with ⟨cb, eb, e4, ht⟩ | ⟨z, eb, e4, ht⟩
    rotate_left
    · cases ht
    refine hc _ _ okb ea σ2 H2 G' fps2 _ _ E2 e4 fun H3 G3 fps3 a3 s3 => ?_
    cases cb with
    | false =>
      rw [if_neg Bool.false_ne_true] at ht ⊢
      obtain ⟨hfr, ho, he3⟩ := wipeO_ok ht
      subst ho
      obtain ⟨f1, f2, f3, f4, f5, f6, f7⟩ := fin a3 hfr he3
      refine ⟨env3, G3, fps3, acc, accv, r, f1, f2, f3, f4, f5, f6, hcl3, ?_, Nat.le_succ_of_le hal, f7, by rw [he3]; exact wipe_none, fun hn => ?_⟩
      · rw [hds, hrest]; rfl
      · have hn' := hn
        rw [Bool.and_eq_true] at hn'
        exact (hsm hn).trans (sm2.trans (s3 hn'.1))
    | true =>
      rw [if_pos rfl] at ht ⊢
      rcases bnd_ways ht with ⟨p, ec, e5, ht⟩ | ⟨z, ec, e5, ht⟩
      rotate_left
      · cases ht
      rcases bnd_ways ht with ⟨yd, ed, e6, ht⟩ | ⟨z, ed, e6, ht⟩
      rotate_left
      · cases ht
      obtain ⟨hfr, ho, he3⟩ := wipeO_ok ht
      subst ho
      intro s01 H01 C1 cl1 fp1
      refine he _ _ (ok.blk scope s01 H01 C1 cl1 fp1) eb σ2 H3 G3 fps3 _ _ a3.E e5 fun v H4 G4 fps4 fpt4 a4 r4 s4 => ?_
      obtain ⟨G5, fps5, a5, r5⟩ := frz_ok a4 r4 e6
      obtain ⟨f1, f2, f3, f4, f5, f6, f7⟩ := fin (a3.next a5) hfr he3
      have hst : Step H4 G5 (· = b) (upd H4 b (.lst (accv ++ [v]))) G5 (· = b) := step_at ⟨accv, .inl f3⟩
      have dG : ∀ x, G5 x → ¬ x = b := fun x g e => by rw [e] at g; exact f4 g
      have dF : ∀ x, FF fps5 x → ¬ x = b := fun x g e => by rw [e] at g; exact f5 g
      refine ⟨accv, f3, ?_, ?_⟩
      · rw [dpAll_length rA, ← lim_eq]; omega
      refine ⟨env3, G5, fps5, acc ++ [yd], accv ++ [v], r, f1.step hst dF dG (gheld_upd f1.gh), f2.updNew hb, upd_same, f4, f5, dpAll_append (dpAll_mono (hst.sub dG) _ _ f6) (.cons (dp_mono (hst.sub dG) _ _ r5) .nil), hcl3, ?_, ?_, rst _ _ _ _ _ _ hst dG f7, by rw [he3]; exact wipe_none, fun hn => ?_⟩
      · rw [hds, hrest]; simp
      · rw [List.length_append]; show acc.length + 1 ≤ i + 1; omega
      · have hn' := hn
        rw [Bool.and_eq_true] at hn'
        exact Same.updNew ((hsm hn).trans (sm2.trans ((s3 hn'.1).trans (s4 hn'.2)))) hb
theorem ownP_snd (own : List Nat) : (ownP N own).map (·.2) = own := by
  unfold ownP
  rw [List.map_map]
  exact List.map_id' own
theorem se_comp {own : List Nat} {t : CT} {src : CI} {cond : CB} {elt : CE} {el tg it : Expr} {ifs : List Expr} {scope : Scope} {pos : Pos} (hb : blkC N sc scope (ownP N own) = true) (hset : isSet it = false) (hi : SI c N sc fn tg it src) (ht : mT N (relS scope sc) (fnB scope) t tg = true)
    (he : SE c N (relS scope sc) (fnB scope) el elt) (hc : SBs c N (relS scope sc) (fnB scope) ifs cond) : SE c N sc fn (.ListComp el [⟨tg, it, ifs, 0⟩] scope pos) (.comp own t src cond elt) := by
  intro X W ok env σ H G fps out Q E hev hq
  have hbk : BlkOk X.N X.env.scope scope (ownP N own) := by
    rw [ok.eN, ok.eS]; exact blkOk_by hb
  have := pe_lc (X := X) (pos := pos) (wi := tI X tg it) (g := gT X.K t) (tt := cT X scope ifs) (te := cE X scope el) (elt := el) ok.calm (by rw [ok.eN]; exact ok.nd) (piS X tg it) hbk
    (fun s H C cl fp => pg_T (ok.blk scope s H C cl fp) ht) (fun s H C cl fp => ⟨fun pins s' σ H' Q I h => h s H C cl fp pins s' I⟩) (fun s H C cl fp => ⟨fun pins s' σ H' Q I h => h s H C cl fp pins s' I⟩) (fun x => notSet_ok hset X.env x)
  rw [ownP_snd] at this
  exact tE_of this (comp_ok ok hi he hc E hev hq)
end
end NW
end
section
set_option linter.all false
set_option maxRecDepth 100000
set_option maxHeartbeats 1000000
/-! NWu: comprehensions of two clauses -/
namespace NW
open PySem L2 PyProof.Rows
def cI (X : Cx) (scope : Scope) (tg it : Expr) : TI := fun σ H Q => ∀ (s : Shared) (H0 : Hp) (C : Addr) (cl : List (Str × Addr)) (fp : List Addr), tI (X.blk s H0 scope (compEnvC scope cl C X.env) fp) tg it σ H Q
section
variable {c : Ct} {N : List Str} {sc : Scope} {fn : Str → Bool}
/-- where the inner clause stands ahead of its turn i -/
def InI (K : PySem.W.Frag) (own1 : List Nat) (σ2 : L2.St) (turn : D → Env → Option (Out (Option D))) (items acc0 ys : List D) (env2 : Env) (R0 RR : Hp → (Addr → Prop) → Prop) (b : Addr) (H1 : Hp) (G1 : Addr → Prop) (fps1 : Fs) (i : Nat) (H : Hp) : Prop :=
  ∃ env G fps acc accv rest, EnvR K env (L2.wipe σ2 own1) H G fps ∧ Step H1 G1 (FF fps1) H G (FF fps) ∧ H b = some (.lst accv) ∧ ¬ G b ∧ ¬ FF fps b ∧ RpA K H G accv (acc0 ++ acc) ∧ compL turn (items.drop i) env = some (.ok rest env2) ∧ ys = acc ++ rest ∧ R0 H G ∧ RR H G ∧ (∀ j ∈ own1, slot env j = none)
def Stb (R : Hp → (Addr → Prop) → Prop) : Prop := ∀ H G F H' G' F', Step H G F H' G' F' → (∀ x, G x → ¬ F x) → R H G → R H' G'
theorem comp_in {X : Cx} {W : WX} {own1 : List Nat} {t1 : CT} {src1 : CI} {elt : CE} {el tg1 it1 : Expr} {scope : Scope} (ok : CtxOk c X W N sc fn) (hi : SI c N (relS scope sc) (fnB scope) tg1 it1 src1) (he : SE c N (relS scope sc) (fnB scope) el elt)
    {ea env2 : Env} {σ2 : L2.St} {H1 H : Hp} {G1 G : Addr → Prop} {fps1 fps : Fs} {acc0 ys : List D} {accv0 : List V} {b : Addr} {R0 : Hp → (Addr → Prop) → Prop} {Nx : Hp → Prop} {cont : List D → Env → Option (Out (List D))}
    (rst0 : Stb R0) (E : EnvR c.K ea σ2 H G fps) (S : Step H1 G1 (FF fps1) H G (FF fps)) (hb1 : H1 b = none) (hbH : H b = some (.lst accv0)) (nG : ¬ G b) (nF : ¬ FF fps b) (rA : RpA c.K H G accv0 acc0) (r0 : R0 H G)
    (hev : bnd (evalI c.Γ src1 ea) cont = some (.ok ys env2)) (hg1 : tgIn own1 t1 = true)
    (hcont : ∀ items env1, cont items env1 = some (.ok ys env2) → own1.all (frOk env1) = true ∧ ∃ env3, compL (compTurn own1 (setT t1) (fun e => some (.ok true e)) (evalE c.Γ elt)) items (wipeE env1 own1) = some (.ok ys env3) ∧
      ∀ H' G' fps' accv', EnvR c.K env3 (L2.wipe σ2 own1) H' G' fps' → Step H1 G1 (FF fps1) H' G' (FF fps') → H' b = some (.lst accv') → ¬ G' b → ¬ FF fps' b → RpA c.K H' G' accv' (acc0 ++ ys) → R0 H' G' → Nx H')
    (hlim : (acc0 ++ ys).length ≤ lim) :
    cI X scope tg1 it1 σ2 H fun J1 H4 => ∃ W1 : Nat → Nat → Hp → Prop, (∃ m, W1 0 m H4) ∧ ∀ j k H, W1 j k H →
      (J1.stop j H ∧ Nx H) ∨ (J1.go j H ∧ ∃ Nx1 : Hp → Prop, (∀ H', Nx1 H' → ∃ k', k' < k ∧ W1 (j + 1) k' H') ∧ ∀ x H', J1.yld j H x H' → gT X.K t1 x (wipe σ2 own1) H' fun σ3 H5 => wipe σ3 own1 = wipe σ2 own1 ∧ cT X scope [] σ3 H5 fun b0 H6 =>
        if b0 = true then cE X scope el σ3 H6 fun y H7 => ∃ acc, H7 b = some (.lst acc) ∧ acc.length < sizeLine ∧ Nx1 (upd H7 b (.lst (acc ++ [y]))) else Nx1 H6) := by
  intro s0 H00 C cl fp
  rcases bnd_ways hev with ⟨items, env1, e1, hev⟩ | ⟨y, env1, e1, h⟩
  rotate_left
  · cases h
  obtain ⟨hfr, env3, hcl, hend⟩ := hcont items env1 hev
  refine hi _ _ (ok.blk scope s0 H00 C cl fp) ea σ2 H G fps _ _ E e1 fun J H3 G3 fps3 a3 src s3 => ?_
  obtain ⟨RR, rr, rst, rd⟩ := src
  have S3 := S.trans a3.S
  have hb3 : H3 b = some (.lst accv0) := a3.S.keep b _ hbH nF
  have nG3 : ¬ G3 b := fun g => by
    rcases a3.S.gnew b g with z | z | z
    · exact nG z
    · exact nF z
    · rw [hbH] at z; cases z
  have nF3 : ¬ FF fps3 b := fun f => by
    rcases a3.S.fnew b f with z | z
    · exact nF z
    · rw [hbH] at z; cases z
  have rA3 : RpA c.K H3 G3 accv0 (acc0 ++ []) := by rw [List.append_nil]; exact dpAll_mono (a3.S.sub E.gf) _ _ rA
  have r03 : R0 H3 G3 := rst0 _ _ _ _ _ _ a3.S E.gf r0
  refine ⟨fun i m H' => m = items.length - i ∧ i ≤ items.length ∧ InI c.K own1 σ2 (compTurn own1 (setT t1) (fun e => some (.ok true e)) (evalE c.Γ elt)) items acc0 ys env3 R0 RR b H1 G1 fps1 i H', ⟨items.length, (Nat.sub_zero _).symm, Nat.zero_le _, ?_⟩, ?_⟩
  · exact ⟨_, G3, fps3, [], accv0, ys, a3.E.wipe hfr, S3, hb3, nG3, nF3, rA3, hcl, rfl, r03, rr, wipe_none⟩
  rintro i m H' ⟨rfl, hile, env', G', fps', acc, accv, rest, E', S', hbl, nG', nF', rA', hcl', hds, r0', rr', hno⟩
  by_cases hil : i < items.length
  rotate_left
  · have e : i = items.length := by omega
    subst e
    rw [List.drop_length] at hcl'
    cases hcl'
    rw [List.append_nil] at hds
    subst hds
    exact .inl ⟨(rd _ H' G' rr').2 (Nat.le_refl _), hend H' G' fps' accv E' S' hbl nG' nF' rA' r0'⟩
  · rw [List.drop_eq_getElem_cons hil] at hcl'
    obtain ⟨o, env4, r, ht, hcl3, hrest⟩ := compL_cons hcl'
    obtain ⟨go, yl⟩ := (rd i H' G' rr').1 items[i] (List.getElem?_eq_getElem hil)
    refine .inr ⟨go, InI c.K own1 σ2 (compTurn own1 (setT t1) (fun e => some (.ok true e)) (evalE c.Γ elt)) items acc0 ys env3 R0 RR b H1 G1 fps1 (i + 1), fun H2 n2 => ⟨items.length - (i + 1), by omega, rfl, hil, n2⟩, fun x H2 y => ?_⟩
    obtain ⟨sm2, rx⟩ := yl x H2 y
    unfold compTurn at ht
    split at ht
    rotate_left
    · cases ht
    rename_i eb heb
    have hb2 : H2 b = some (.lst accv) := sm2 _ _ hbl
    rw [ok.eK]
    refine gT_ok (E'.same sm2) rx heb fun σ3 fps2 E2 hf2 hσ2 hl2 => ?_
    have hw : L2.wipe σ3 own1 = L2.wipe σ2 own1 := by
      have := wipe_ext (σ := L2.wipe σ2 own1) (σ2 := σ3) (own := own1) hl2 fun j hj => hσ2 j fun hm => hj (tgIn_ok hg1 j hm)
      rw [this]
      exact wipe_ext (wipe_length σ2 own1) fun j hj => by rw [wipe_get, if_neg hj]
    refine ⟨hw, ?_⟩
    have S2 : Step H1 G1 (FF fps1) H2 G' (FF fps2) := by
      have z := S'.trans (Same.stepF sm2 (G := G') (F := FF fps'))
      exact ⟨z.keep, z.tups, z.frzs, z.gsub, z.gnew, fun x hx => z.fnew x (hf2 x hx)⟩
    have nF2 : ¬ FF fps2 b := fun f => nF' (hf2 b f)
    have rA2 : RpA c.K H2 G' accv (acc0 ++ acc) := dpAll_mono (same_sub sm2) _ _ rA'
    have r02 : R0 H2 G' := rst0 _ _ F0 _ _ F0 (Same.step sm2) (fun _ _ f => f) r0'
    have rr2 : RR H2 G' := rst _ _ F0 _ _ F0 (Same.step sm2) (fun _ _ f => f) rr'
    intro s1 H01 C1 cl1 fp1
    refine tTs_of pts_nil ?_
    simp only [tYes, if_true]
    rcases bnd_ways ht with ⟨cb, eb', e4, ht⟩ | ⟨z, eb', e4, ht⟩
    rotate_left
    · cases ht
    cases e4
    rw [if_pos rfl] at ht
    rcases bnd_ways ht with ⟨p, ec, e5, ht⟩ | ⟨z, ec, e5, ht⟩
    rotate_left
    · cases ht
    rcases bnd_ways ht with ⟨yd, ed, e6, ht⟩ | ⟨z, ed, e6, ht⟩
    rotate_left
    · cases ht
    obtain ⟨hfr4, ho, he3⟩ := wipeO_ok ht
    subst ho
    intro s02 H02 C2 cl2 fp2
    refine he _ _ (ok.blk scope s02 H02 C2 cl2 fp2) eb σ3 H2 G' fps2 _ _ E2 e5 fun v H4 G4 fps4 fpt4 a4 r4 s4 => ?_
    obtain ⟨G5, fps5, a5, r5⟩ := frz_ok a4 r4 e6
    have z := a5.E.wipe hfr4
    rw [hw, ← he3] at z
    have hb5 : H4 b = some (.lst accv) := a5.S.keep b _ hb2 nF2
    have nG5 : ¬ G5 b := fun g => by
      rcases a5.S.gnew b g with z | z | z
      · exact nG' z
      · exact nF2 z
      · rw [hb2] at z; cases z
    have nF5 : ¬ FF fps5 b := fun f => by
      rcases a5.S.fnew b f with z | z
      · exact nF2 z
      · rw [hb2] at z; cases z
    have rA5 : RpA c.K H4 G5 accv (acc0 ++ acc) := dpAll_mono (a5.S.sub E2.gf) _ _ rA2
    have hst : Step H4 G5 (· = b) (upd H4 b (.lst (accv ++ [v]))) G5 (· = b) := step_at ⟨accv, .inl hb5⟩
    have dG : ∀ x, G5 x → ¬ x = b := fun x g e => by rw [e] at g; exact nG5 g
    have dF : ∀ x, FF fps5 x → ¬ x = b := fun x g e => by rw [e] at g; exact nF5 g
    have hrest' : rest = yd :: r := hrest
    refine ⟨accv, hb5, ?_, ?_⟩
    · rw [dpAll_length rA5, ← lim_eq]
      rw [hds, hrest'] at hlim
      simp only [List.length_append, List.length_cons] at hlim ⊢
      omega
    refine ⟨env4, G5, fps5, acc ++ [yd], accv ++ [v], r, z.step hst dF dG (gheld_upd z.gh), (S2.trans a5.S).updNew hb1, upd_same, nG5, nF5, ?_, hcl3, ?_, rst0 _ _ _ _ _ _ hst dG (rst0 _ _ _ _ _ _ a5.S E2.gf r02), rst _ _ _ _ _ _ hst dG (rst _ _ _ _ _ _ a5.S E2.gf rr2), by rw [he3]; exact wipe_none⟩
    · rw [← List.append_assoc]
      exact dpAll_append (dpAll_mono (hst.sub dG) _ _ rA5) (.cons (dp_mono (hst.sub dG) _ _ r5) .nil)
    · rw [hds, hrest']; simp
theorem compL2_cons {turn : D → Env → Option (Out (List D))} {d : D} {ds rest : List D} {env env2 : Env} (h : compL2 turn (d :: ds) env = some (.ok rest env2)) :
    ∃ ys env3 r, turn d env = some (.ok ys env3) ∧ compL2 turn ds env3 = some (.ok r env2) ∧ rest = ys ++ r := by
  unfold compL2 at h
  split at h
  · rename_i o env3 e
    split at h
    · rename_i r env4 e2
      cases h
      exact ⟨_, _, _, e, e2, rfl⟩
    · cases h
  · cases h
noncomputable def turn2 (Γ : Gam) (own own1 : List Nat) (t t1 : CT) (src1 : CI) (elt : CE) : D → Env → Option (Out (List D)) := compTurn2 own own1 (setT t) (evalI Γ src1) (compTurn own1 (setT t1) (fun e => some (.ok true e)) (evalE Γ elt))
def Comp2I (K : PySem.W.Frag) (own : List Nat) (σ : L2.St) (turn : D → Env → Option (Out (List D))) (items ds : List D) (env2 : Env) (R0 : Hp → (Addr → Prop) → Prop) (b : Addr) (H1 : Hp) (G1 : Addr → Prop) (fps1 : Fs) (i : Nat) (H : Hp) : Prop :=
  ∃ env G fps acc accv rest, EnvR K env (L2.wipe σ own) H G fps ∧ Step H1 G1 (FF fps1) H G (FF fps) ∧ H b = some (.lst accv) ∧ ¬ G b ∧ ¬ FF fps b ∧ RpA K H G accv acc ∧ compL2 turn (items.drop i) env = some (.ok rest env2) ∧ ds = acc ++ rest ∧ R0 H G ∧ (∀ j ∈ own, slot env j = none)
theorem wipe_wipe {σ : L2.St} {own own1 : List Nat} (h : ∀ j ∈ own1, j ∈ own) : L2.wipe (L2.wipe σ own1) own = L2.wipe σ own :=
  wipe_ext (wipe_length σ own1) fun j hj => by rw [wipe_get, if_neg fun hm => hj (h j hm)]
theorem comp2_ok {X : Cx} {W : WX} {own own1 : List Nat} {t t1 : CT} {src src1 : CI} {elt : CE} {el tg it tg1 it1 : Expr} {scope : Scope} (ok : CtxOk c X W N sc fn) (hi : SI c N sc fn tg it src) (hi1 : SI c N (relS scope sc) (fnB scope) tg1 it1 src1) (he : SE c N (relS scope sc) (fnB scope) el elt)
    {env : Env} {σ : L2.St} {H : Hp} {G : Addr → Prop} {fps : Fs} {out : Out P} {Q : VK} (E : EnvR c.K env σ H G fps) (hev : evalE c.Γ (.comp2 own t src own1 t1 src1 elt) env = some out) (hq : GE c W σ H G fps (noeff (.comp2 own t src own1 t1 src1 elt)) Q out) :
    tLc2 (tI X tg it) (gT X.K t) (cT X scope []) (cI X scope tg1 it1) (gT X.K t1) (cT X scope []) (cE X scope el) own own1 σ H Q := by
  simp only [evalE_comp2] at hev
  rcases bnd_ways hev with ⟨items, env1, e1, hev⟩ | ⟨y, env1, e1, rfl⟩
  rotate_left
  · exact hi X W ok env σ H G fps _ _ E e1 fun cls d H1 G1 fps1 a1 x1 => hq cls d H1 G1 fps1 a1 x1
  split at hev
  rotate_left
  · cases hev
  rename_i hg
  simp only [Bool.and_eq_true, List.all_eq_true (l := own1), List.contains_iff_mem] at hg
  obtain ⟨⟨⟨hg1, hg11⟩, hsub⟩, hg2⟩ := hg
  split at hev
  rotate_left
  · cases hev
  rename_i ds env2 hcl
  split at hev
  rotate_left
  · cases hev
  rename_i hlim
  cases hev
  change compL2 (turn2 c.Γ own own1 t t1 src1 elt) items (wipeE env1 own) = _ at hcl
  refine hi X W ok env σ H G fps _ _ E e1 fun J H1 G1 fps1 a1 src1' s1 => ?_
  obtain ⟨R0, r0, rst, rd⟩ := src1'
  intro b hb
  have nG : ¬ G1 b := fun g => by obtain ⟨u, e⟩ := a1.E.gh b g; rw [hb] at e; cases e
  have nF : ¬ FF fps1 b := fun f => by obtain ⟨_, u, e⟩ := a1.E.held f; rw [hb] at e; cases e
  refine ⟨fun i m H' => m = items.length - i ∧ i ≤ items.length ∧ Comp2I c.K own σ (turn2 c.Γ own own1 t t1 src1 elt) items ds env2 R0 b H1 G1 fps1 i H', ⟨items.length, (Nat.sub_zero _).symm, Nat.zero_le _, ?_⟩, ?_⟩
  · have sm : Same H1 (upd H1 b (.lst [])) := same_upd hb
    exact ⟨_, G1, fps1, [], [], ds, (a1.E.wipe hg2).same sm, Same.stepF sm, upd_same, nG, nF, .nil, hcl, rfl, rst _ _ F0 _ _ F0 (Same.step sm) (fun _ _ f => f) r0, wipe_none⟩
  rintro i m H' ⟨rfl, hile, env', G', fps', acc, accv, rest, E', S', hbl, nG', nF', rA, hcl', hds, r0', hno⟩
  by_cases hil : i < items.length
  rotate_left
  · have e : i = items.length := by omega
    subst e
    rw [List.drop_length] at hcl'
    cases hcl'
    rw [List.append_nil] at hds
    subst hds
    refine .inl ⟨(rd _ H' G' r0').2 (Nat.le_refl _), ?_⟩
    refine hq _ H' G' fps' [b] ⟨a1.E.back E' S' hg2 hno, a1.S.trans S', fun x hx => ?_, fun x hx => ?_⟩ ⟨b, accv, rfl, rfl, nG', hbl, rA⟩ fun hn => ?_
    · have : x = b := by simpa using hx
      subst this
      exact (a1.S.none_of hb).symm
    · have : x = b := by simpa using hx
      subst this
      exact nF'
    · simp [noeff_comp2] at hn
  · rw [List.drop_eq_getElem_cons hil] at hcl'
    obtain ⟨ys, env3, r, ht, hcl3, hrest⟩ := compL2_cons hcl'
    obtain ⟨go, yl⟩ := (rd i H' G' r0').1 items[i] (List.getElem?_eq_getElem hil)
    refine .inr ⟨go, Comp2I c.K own σ (turn2 c.Γ own own1 t t1 src1 elt) items ds env2 R0 b H1 G1 fps1 (i + 1), fun H2 n2 => ⟨items.length - (i + 1), by omega, rfl, hil, n2⟩, fun x H2 y => ?_⟩
    obtain ⟨sm2, rx⟩ := yl x H2 y
    unfold turn2 compTurn2 at ht
    split at ht
    rotate_left
    · cases ht
    rename_i ea hea
    have hb2 : H2 b = some (.lst accv) := sm2 _ _ hbl
    rw [ok.eK]
    refine gT_ok (E'.same sm2) rx hea fun σ2 fps2 E2 hf2 hσ2 hl2 => ?_
    have hw : L2.wipe σ2 own = L2.wipe σ own := by
      have := wipe_ext (σ := L2.wipe σ own) (σ2 := σ2) (own := own) hl2 fun j hj => hσ2 j fun hm => hj (tgIn_ok hg1 j hm)
      rw [this]
      exact wipe_ext (wipe_length σ own) fun j hj => by rw [wipe_get, if_neg hj]
    refine ⟨hw, ?_⟩
    have S2 : Step H1 G1 (FF fps1) H2 G' (FF fps2) := by
      have z := S'.trans (Same.stepF sm2 (G := G') (F := FF fps'))
      exact ⟨z.keep, z.tups, z.frzs, z.gsub, z.gnew, fun x hx => z.fnew x (hf2 x hx)⟩
    have nF2 : ¬ FF fps2 b := fun f => nF' (hf2 b f)
    have rA2 : RpA c.K H2 G' accv acc := dpAll_mono (same_sub sm2) _ _ rA
    have r02 : R0 H2 G' := rst _ _ F0 _ _ F0 (Same.step sm2) (fun _ _ f => f) r0'
    intro s0 H00 C cl fp
    refine tTs_of pts_nil ?_
    simp only [tYes, if_true]
    have := comp_in (b := b) (R0 := R0) (acc0 := acc) (ys := ys) (Nx := Comp2I c.K own σ (turn2 c.Γ own own1 t t1 src1 elt) items ds env2 R0 b H1 G1 fps1 (i + 1)) ok hi1 he (own1 := own1) rst E2 S2 hb hb2 nG' nF2 rA2 r02 ht hg11 (fun its en hct => ?_) ?_
    · rw [ok.eK] at this
      exact this
    · split at hct
      rotate_left
      · cases hct
      rename_i hfr1
      split at hct
      rotate_left
      · cases hct
      rename_i ys2 en3 hcl4
      split at hct
      rotate_left
      · cases hct
      rename_i hfr2
      cases hct
      refine ⟨hfr1, en3, hcl4, fun H4 G4 fps4 accv4 E4 S4 hb4 nG4 nF4 rA4 r04 => ?_⟩
      refine ⟨wipeE en3 own, G4, fps4, acc ++ ys, accv4, r, ?_, S4, hb4, nG4, nF4, rA4, hcl3, ?_, r04, wipe_none⟩
      · have z := E4.wipe hfr2
        rw [wipe_wipe hsub, hw] at z
        exact z
      · rw [hds, hrest, List.append_assoc]
    · rw [hds, hrest] at hlim
      simp only [List.length_append] at hlim ⊢
      omega
theorem se_comp2 {own own1 : List Nat} {t t1 : CT} {src src1 : CI} {elt : CE} {el tg it tg1 it1 : Expr} {scope : Scope} {pos : Pos} (hb : blkC N sc scope (ownP N own) = true) (hs1 : own1.all (fun i => own.contains i) = true) (hset : isSet it = false) (hset1 : isSet it1 = false) (hi : SI c N sc fn tg it src) (ht : mT N (relS scope sc) (fnB scope) t tg = true)
    (hi1 : SI c N (relS scope sc) (fnB scope) tg1 it1 src1) (ht1 : mT N (relS scope sc) (fnB scope) t1 tg1 = true)
    (he : SE c N (relS scope sc) (fnB scope) el elt) : SE c N sc fn (.ListComp el [⟨tg, it, [], 0⟩, ⟨tg1, it1, [], 0⟩] scope pos) (.comp2 own t src own1 t1 src1 elt) := by
  intro X W ok env σ H G fps out Q E hev hq
  have hsub : ∀ i ∈ own1, i ∈ (ownP N own).map (·.2) := by
    rw [ownP_snd]
    simpa [List.all_eq_true] using hs1
  have hbk : BlkOk X.N X.env.scope scope (ownP N own) := by
    rw [ok.eN, ok.eS]; exact blkOk_by hb
  have := pe_lc2 (X := X) (pos := pos) (wi := tI X tg it) (g := gT X.K t) (tt := cT X scope []) (wi1 := cI X scope tg1 it1) (g1 := gT X.K t1) (tt1 := cT X scope []) (te := cE X scope el) (elt := el) (vs1 := own1) ok.calm (by rw [ok.eN]; exact ok.nd) (piS X tg it) hbk hsub
    (fun s H C cl fp => pg_T (ok.blk scope s H C cl fp) ht) (fun s H C cl fp => ⟨fun pins s' σ H' Q I h => h s H C cl fp pins s' I⟩) (fun s H C cl fp => ⟨fun pins s' σ H' Q I h => h s H C cl fp pins s' I⟩)
    (fun s H C cl fp => pg_T (ok.blk scope s H C cl fp) ht1) (fun s H C cl fp => ⟨fun pins s' σ H' Q I h => h s H C cl fp pins s' I⟩) (fun s H C cl fp => ⟨fun pins s' σ H' Q I h => h s H C cl fp pins s' I⟩) (fun x => notSet_ok hset X.env x) (fun env x => notSet_ok hset1 env x)
  rw [ownP_snd] at this
  exact tE_of this (comp2_ok ok hi hi1 he E hev hq)
end
end NW
end
section
set_option linter.all false
set_option maxRecDepth 100000
set_option maxHeartbeats 1000000
/-! NWl: displays of dicts; all expressions -/
namespace NW
open PySem L2 PyProof.Rows
section
variable {K : PySem.W.Frag} {σ : L2.St} {H H' : Hp} {G G' F F' : Addr → Prop} {fps fps' : Fs} {env env2 : Env}
theorem FldR.step (s : Step H G F H' G' F') (dis : ∀ b, G b → ¬ F b) : ∀ {fs : List Fld} {vs : List V} {fp : List Addr}, (∀ b ∈ fp, ¬ F b) → FldR K H G fs vs fp → FldR K H' G' fs vs fp
  | [], [], fp, _, h => h
  | f :: r, v :: rv, fp, hf, h => by
    obtain ⟨fp1, fp2, rfl, dj, h1, h2⟩ := h
    exact ⟨fp1, fp2, rfl, dj, h1.step s dis fun b hb => hf b (List.mem_append_left _ hb), FldR.step s dis (fun b hb => hf b (List.mem_append_right _ hb)) h2⟩
  | [], _ :: _, _, _, h => h.elim
  | _ :: _, [], _, _, h => h.elim
theorem FldR.fields : ∀ {ks : List Str} {fs : List Fld} {vs : List V} {fp : List Addr}, ks.length = fs.length → FldR K H G fs vs fp → OwFs K H G ((ks.map Sum.inr).zip fs) (((ks.map Sum.inr : List Key)).zip vs) fp ∧ vs.length = fs.length
  | [], [], [], fp, _, h => ⟨h, rfl⟩
  | k :: ks, f :: fs, v :: vs, fp, hl, h => by
    obtain ⟨fp1, fp2, rfl, dj, h1, h2⟩ := h
    obtain ⟨q1, q2⟩ := FldR.fields (ks := ks) (Nat.succ.inj hl) h2
    exact ⟨⟨rfl, fp1, fp2, rfl, dj, h1, q1⟩, by rw [List.length_cons, List.length_cons, q2]⟩
  | [], _ :: _, _, _, hl, _ => by cases hl
  | _ :: _, [], _, _, hl, _ => by cases hl
  | [], [], _ :: _, _, _, h => h.elim
  | _ :: _, _ :: _, [], _, _, h => h.elim
theorem FldR.held : ∀ {fs : List Fld} {vs : List V} {fp : List Addr}, FldR K H G fs vs fp → ∀ b ∈ fp, ∃ u, H b = some u
  | [], [], fp, h => by
    intro b hb
    have e : fp = [] := h
    rw [e] at hb; cases hb
  | f :: r, v :: rv, fp, h => by
    obtain ⟨fp1, fp2, rfl, dj, h1, h2⟩ := h
    intro b hb
    rcases List.mem_append.mp hb with z | z
    · exact (h1.held b z).2
    · exact FldR.held h2 b z
  | [], _ :: _, _, h => h.elim
  | _ :: _, [], _, h => h.elim
end
theorem valV_zip {k : Key} : ∀ {ks : List Key} {vs : List V}, k ∉ ks → valV (ks.zip vs) k = none
  | [], _, _ => rfl
  | _ :: _, [], _ => rfl
  | k' :: ks, v :: vs, h => by
    rw [List.mem_cons, not_or] at h
    rw [List.zip_cons_cons, valV_neg (Ne.symm h.1)]
    exact valV_zip h.2
theorem mergeK_zip : ∀ (ks : List Key) (vs : List V) (ks0 : List Key) (vs0 : List V), ks.length = vs.length → ks0.length = vs0.length → (ks0 ++ ks).Nodup → mergeK (ks0.zip vs0) (ks.zip vs) = (ks0 ++ ks).zip (vs0 ++ vs)
  | [], [], ks0, vs0, _, _, _ => by simp [mergeK]
  | k :: ks, v :: vs, ks0, vs0, h1, h2, hn => by
    have hk : k ∉ ks0 := fun hm => by
      rw [List.nodup_append] at hn
      exact hn.2.2 k hm k List.mem_cons_self rfl
    show mergeK (putK (ks0.zip vs0) k v) (ks.zip vs) = _
    rw [putK_new v (valV_zip hk)]
    have e : ks0.zip vs0 ++ [(k, v)] = (ks0 ++ [k]).zip (vs0 ++ [v]) := by rw [List.zip_append h2]; rfl
    rw [e, mergeK_zip ks vs (ks0 ++ [k]) (vs0 ++ [v]) (Nat.succ.inj h1) (by simp [h2]) (by simpa using hn)]
    simp
  | [], _ :: _, _, _, h, _, _ => by cases h
  | _ :: _, [], _, _, h, _, _ => by cases h
def trsD (X : Cx) : List Str → List Expr → List (TE × TE)
  | k :: ks, e :: es => (tC (.str k), tE X e) :: trsD X ks es
  | _, _ => []
section
variable (c : Ct) (N : List Str)
def SFs (sc : Scope) (fn : Str → Bool) (l : List Expr) (a : CEs) : Prop := ∀ X W, CtxOk c X W N sc fn → ∀ (ks : List Str) env σ H G fps out Q, ks.length = l.length → EnvR c.K env σ H G fps → evalFs c.Γ a env = some out →
  GF c W σ H G fps (noeffs a) (fun vs H' => Q ((ks.map V.str).zip vs) H') out → tPairs (trsD X ks l) σ H Q
end
section
variable {c : Ct} {N : List Str} {sc : Scope} {fn : Str → Bool}
theorem sfs_nil : SFs c N sc fn [] .nil := by
  intro X W ok ks env σ H G fps out Q hl E he hq
  simp only [evalFs_nil] at he
  cases he
  cases ks with
  | cons k ks => cases hl
  | nil => exact hq [] H G fps [] (Aft.refl E) rfl fun _ => same_refl H
theorem fld_of {K : PySem.W.Frag} {H : Hp} {G : Addr → Prop} {d : D} {v : V} {fp : List Addr} (h : Ow K H G (.fz d) v fp) : OwF K H G (.fz d) v fp := h
theorem fld_ls {K : PySem.W.Frag} {H : Hp} {G : Addr → Prop} {d : List D} {v : V} {fp : List Addr} (h : Ow K H G (.lst d) v fp) : OwF K H G (.ls d) v fp := h
theorem sfs_cons {e : Expr} {l : List Expr} {a : CE} {as : CEs} (h1 : SE c N sc fn e a) (h2 : SFs c N sc fn l as) : SFs c N sc fn (e :: l) (.cons a as) := by
  intro X W ok ks env σ H G fps out Q hl E he hq
  simp only [evalFs_cons] at he
  cases ks with
  | nil => cases hl
  | cons k ks =>
  have hl' : ks.length = l.length := Nat.succ.inj hl
  show tE X e σ H fun y H2 => tPairs (trsD X ks l) σ H2 fun ps H3 => Q ((V.str k, y) :: ps) H3
  rcases bnd_ways he with ⟨p, env1, e1, he⟩ | ⟨y, env1, e1, rfl⟩
  · refine h1 X W ok env σ H G fps _ _ E e1 fun v H1 G1 fps1 fpt1 a1 r1 s1 => ?_
    rcases bnd_ways he with ⟨o, env2, e2, he⟩ | ⟨y, env2, e2, rfl⟩
    · obtain ⟨G2, fps2, fpt2, a2, r2⟩ := share_ok a1 r1 e2
      have main : ∀ (f : Fld), (∀ {H : Hp} {G : Addr → Prop}, Ow c.K H G o v fpt2 → OwF c.K H G f v fpt2) → (bnd (evalFs c.Γ as env2) fun fs env => some (Out.ok (f :: fs) env)) = some out → tPairs (trsD X ks l) σ H1 fun ps H3 => Q ((V.str k, v) :: ps) H3 := fun f hf he => by
        rcases bnd_ways he with ⟨fs, env3, e3, he⟩ | ⟨y, env3, e3, rfl⟩
        · cases he
          refine h2 X W ok ks env2 σ H1 G2 fps2 _ _ hl' a2.E e3 fun vs H3 G3 fps3 fpt3 a3 r3 s3 => ?_
          obtain ⟨r2', a2'⟩ := PR.next (p := .val o) (ne := false) a2 r2 a3 rfl (fun z => nomatch z)
          · refine hq (v :: vs) H3 G3 fps3 (fpt2 ++ fpt3) (a2'.app (a2.next a3)) ⟨fpt2, fpt3, rfl, fun b hb hb' => ?_, hf r2', r3⟩ fun hn => ?_
            · rcases a3.new b hb' with z | z
              · exact a2.off b hb z
              · obtain ⟨_, u, e⟩ := r2.held b hb
                rw [e] at z; cases z
            · simp only [noeffs_cons, Bool.and_eq_true] at hn
              exact (s1 hn.1).trans (s3 hn.2)
        · exact h2 X W ok ks env2 σ H1 G2 fps2 _ _ hl' a2.E e3 fun cls d H3 G3 fps3 a3 x3 => hq cls d H3 G3 fps3 (a2.next a3) x3
      split at he
      · exact main _ (fun h => fld_of h) he
      · exact main _ (fun h => fld_ls h) he
      · cases he
    · exact (share_not e2).elim
  · exact h1 X W ok env σ H G fps _ _ E e1 fun cls d H1 G1 fps1 a1 x1 => hq cls d H1 G1 fps1 a1 x1
theorem pps_of {X : Cx} {pos : Pos} : ∀ {ks : List Str} {keys : List (Option Expr)} {vals : List Expr}, mKeys ks keys = true → ks.length = vals.length → PPs X pos keys vals (trsD X ks vals)
  | [], [], [], _, _ => pps_nil
  | k :: ks, some (.Constant (.str x) j p) :: keys, e :: vals, h, hl => by
    simp only [mKeys, Bool.and_eq_true, decide_eq_true_eq] at h
    obtain ⟨rfl, h⟩ := h
    exact pps_cons pe_str (peS X e) (pps_of h (Nat.succ.inj hl))
  | [], [], _ :: _, _, hl => by cases hl
  | [], _ :: _, _, h, _ => by cases h
  | _ :: _, _, [], _, hl => by cases hl
  | _ :: _, [], _ :: _, h, _ => by cases h
theorem keys_of : ∀ {ks : List Str} {keys : List (Option Expr)}, mKeys ks keys = true → keys.all (·.isSome) = true ∧ keys.length = ks.length
  | [], [], _ => ⟨rfl, rfl⟩
  | k :: ks, some (.Constant (.str x) j p) :: keys, h => by
    simp only [mKeys, Bool.and_eq_true, decide_eq_true_eq] at h
    obtain ⟨h1, h2⟩ := keys_of h.2
    exact ⟨by simp [h1], by simp [h2]⟩
  | [], _ :: _, h => by cases h
  | _ :: _, [], h => by cases h
theorem zip_kV : ∀ (ks : List Str) (vs : List V), (ks.map V.str).zip vs = ((ks.map Sum.inr : List Key).zip vs).map fun kv => (kV kv.1, kv.2)
  | [], _ => rfl
  | _ :: _, [] => rfl
  | k :: ks, v :: vs => by
    show (V.str k, v) :: (ks.map V.str).zip vs = _
    rw [zip_kV ks vs]; rfl
theorem nodup_inr {ks : List Str} (h : ks.Nodup) : (ks.map Sum.inr : List Key).Nodup := by
  refine List.pairwise_map.mpr (h.imp fun hne e => hne (Sum.inr.inj e))
theorem se_dct {ks : List Str} {as : CEs} {keys : List (Option Expr)} {vals : List Expr} {pos : Pos} (hne : ks ≠ []) (h15 : ks.length ≤ 15) (hk : mKeys ks keys = true) (hl : ks.length = vals.length) (h : SFs c N sc fn vals as) : SE c N sc fn (.Dict keys vals pos) (.dct ks as) := by
  intro X W ok env σ H G fps out Q E he hq
  simp only [evalE_dct] at he
  obtain ⟨hall, hlk⟩ := keys_of hk
  refine tE_of (pe_disp (pps_of hk hl) hall (by rw [hlk, hl]) (fun z => hne (by
    rw [z] at hlk
    exact List.eq_nil_of_length_eq_zero hlk.symm)) (by rw [hlk]; exact h15)) ?_
  intro p hp
  have sm : Same H (upd H p (.dK [])) := same_upd hp
  have nG : ¬ G p := fun g => by obtain ⟨u, e⟩ := E.gh p g; rw [hp] at e; cases e
  have nF : ¬ FF fps p := fun f => by obtain ⟨_, u, e⟩ := E.held f; rw [hp] at e; cases e
  have a0 : Aft c.K σ H G fps env (upd H p (.dK [])) G fps [] := ⟨E.same sm, Same.stepF sm, (fun b hb => nomatch hb), (fun b hb => nomatch hb)⟩
  rcases bnd_ways he with ⟨fs, env1, e1, he⟩ | ⟨y, env1, e1, rfl⟩
  · split at he
    · rename_i hz
      obtain ⟨z1, z2, z3, z4⟩ := hz
      cases he
      refine h X W ok ks env σ _ G fps _ (fun ps H2 => H2 p = some (.dK []) ∧ ∃ kvs : List (Key × V), ps = kvs.map (fun kv => (kV kv.1, kv.2)) ∧ kvs.length ≤ 15 ∧ Q (.ref p) (upd H2 p (.dK (mergeK [] kvs)))) hl a0.E e1 fun vs H2 G2 fps2 fpt2 a2 r2 s2 => ?_
      have h2 : H2 p = some (.dK []) := a2.S.keep p _ upd_same nF
      have nG2 : ¬ G2 p := fun g => by
        rcases a2.S.gnew p g with z | z | z
        · exact nG z
        · exact nF z
        · rw [upd_same] at z; cases z
      have nF2 : ¬ FF fps2 p := fun f => by
        rcases a2.S.fnew p f with z | z
        · exact nF z
        · rw [upd_same] at z; cases z
      have nT2 : ∀ b ∈ fpt2, ¬ b = p := fun b hb e => by
        subst e
        rcases a2.new b hb with z | z
        · exact nF z
        · rw [upd_same] at z; cases z
      obtain ⟨of, hvl⟩ := r2.fields z1
      have hvl' : vs.length = ks.length := by rw [hvl, z1]
      refine ⟨h2, (ks.map Sum.inr : List Key).zip vs, zip_kV ks vs, by rw [List.length_zip, List.length_map, hvl']; omega, ?_⟩
      have em : mergeK [] ((ks.map Sum.inr : List Key).zip vs) = (ks.map Sum.inr : List Key).zip vs := by
        have := mergeK_zip (ks.map Sum.inr) vs [] [] (by rw [List.length_map, hvl']) rfl (by rw [List.nil_append]; exact nodup_inr z4)
        rw [List.zip_nil_left, List.nil_append, List.nil_append] at this
        exact this
      rw [em]
      have hst : Step H2 G2 (· = p) (upd H2 p (.dK ((ks.map Sum.inr : List Key).zip vs))) G2 (· = p) := step_at ⟨[], .inr ⟨_, h2⟩⟩
      have dG : ∀ x, G2 x → ¬ x = p := fun x g e => by rw [e] at g; exact nG2 g
      have dF : ∀ x, FF fps2 x → ¬ x = p := fun x g e => by rw [e] at g; exact nF2 g
      have S2 : Step H G (FF fps) (upd H2 p (.dK ((ks.map Sum.inr : List Key).zip vs))) G2 (FF fps2) := (a0.S.trans a2.S).updNew hp
      refine hq (.ref p) _ G2 fps2 (p :: fpt2) ⟨a2.E.step hst dF dG (gheld_upd a2.E.gh), S2, fun b hb => ?_, fun b hb => ?_⟩ ⟨p, _, fpt2, rfl, rfl, fun hm => nT2 p hm rfl, nG2, upd_same, ?_⟩ fun hn => ?_
      · rcases List.mem_cons.mp hb with rfl | hb
        · exact .inr hp
        · rcases a2.new b hb with z | z
          · exact .inl z
          · rw [upd_ne (nT2 b hb)] at z; exact .inr z
      · rcases List.mem_cons.mp hb with rfl | hb
        · exact nF2
        · exact a2.off b hb
      · exact of.step hst dG nT2
      · exact Same.updNew (sm.trans (s2 hn)) hp
    · cases he
  · exact h X W ok ks env σ _ G fps _ (fun ps H2 => H2 p = some (.dK []) ∧ ∃ kvs : List (Key × V), ps = kvs.map (fun kv => (kV kv.1, kv.2)) ∧ kvs.length ≤ 15 ∧ Q (.ref p) (upd H2 p (.dK (mergeK [] kvs)))) hl a0.E e1 fun cls d H3 G3 fps3 a3 x3 => hq cls d H3 G3 fps3 (a0.next a3) x3
end
end NW
end
section
set_option linter.all false
set_option maxRecDepth 100000
set_option maxHeartbeats 2000000
/-! NWz: dicts whose keys are nested tuples of numbers -/
namespace NW
open PySem L2 PyProof.Rows
theorem keyOkD_iff {q : D} (h : keyOkD q = true) : ∃ ds k, q = .tuple ds ∧ nkey q = some k ∧ k.depth ≤ 8 := by
  unfold keyOkD at h
  split at h
  · rename_i ds
    split at h
    · rename_i k hk
      exact ⟨ds, k, rfl, hk, by simpa using h⟩
    · cases h
  · cases h
section
variable {K : PySem.W.Frag} {H H' : Hp} {G G' : Addr → Prop}
theorem key_ref {q : D} {v : V} (h : keyOkD q = true) (r : Rp K H G v q) : ∃ b k, v = .ref b ∧ nkey q = some k ∧ k.depth ≤ 8 ∧ KeyH K H b k := by
  obtain ⟨ds, k, rfl, hk, hd⟩ := keyOkD_iff h
  obtain ⟨b, xs, rfl, s, t⟩ := rtup r
  exact ⟨b, k, rfl, hk, hd, .tuple ds, dp_mono (sub_forget K H G) _ _ r, hk, hd⟩
theorem KdRel.keys : ∀ {xs : List KE} {kvs : List (D × D)}, KdRel K H G xs kvs → ∀ x ∈ xs, KeyH K H x.2.1 x.1 := by
  intro xs kvs r
  unfold KdRel at r
  induction r with
  | nil => intro x hx; cases hx
  | @cons p q ps qs h t ih =>
    intro x hx
    rcases List.mem_cons.mp hx with rfl | hx
    · exact ⟨q.1, dp_mono (sub_forget K H G) _ _ h.2.2.1, h.1, h.2.1⟩
    · exact ih x hx
theorem KdRel.length {xs : List KE} {kvs : List (D × D)} (r : KdRel K H G xs kvs) : xs.length = kvs.length := Paired.length r
theorem KdRel.any {q : D} {k : NestedKey} (hk : nkey q = some k) : ∀ {xs : List KE} {kvs : List (D × D)}, KdRel K H G xs kvs → (atKey xs k).isSome = kvs.any fun p => decide (nkey p.1 = nkey q) := by
  intro xs kvs r
  unfold KdRel at r
  induction r with
  | nil => rfl
  | @cons x p xs ps h t ih =>
    rw [List.any_cons, ← ih]
    by_cases e : x.1 = k
    · have e1 : nkey p.1 = nkey q := by rw [h.1, hk, e]
      have e2 : atKey (x :: xs) k = some x.2 := by simp [atKey, List.find?_cons, e]
      rw [e2, decide_eq_true e1]; rfl
    · have e1 : ¬ nkey p.1 = nkey q := fun z => e (by rw [h.1, hk] at z; exact Option.some.inj z)
      have e2 : atKey (x :: xs) k = atKey xs k := by simp [atKey, List.find?_cons, e]
      rw [e2, decide_eq_false e1, Bool.false_or]
theorem KdRel.repl {q d : D} {k : NestedKey} {u : Value} {v : V} (hk : nkey q = some k) (ru : RelV v u) (rv : Rp K H G v d) : ∀ {xs : List KE} {kvs : List (D × D)}, KdRel K H G xs kvs → KdRel K H G (xs.map (putAt k u)) (kvs.map fun p => if nkey p.1 = nkey q then (p.1, d) else p) := by
  intro xs kvs r
  unfold KdRel at r ⊢
  induction r with
  | nil => exact .nil
  | @cons x p xs ps h t ih =>
    rw [List.map_cons, List.map_cons]
    refine .cons ?_ ih
    unfold putAt
    by_cases e : x.1 = k
    · have e1 : nkey p.1 = nkey q := by rw [h.1, hk, e]
      rw [if_pos e, if_pos e1]
      exact ⟨h.1, h.2.1, h.2.2.1, v, ru, rv⟩
    · have e1 : ¬ nkey p.1 = nkey q := fun z => e (by rw [h.1, hk] at z; exact Option.some.inj z)
      rw [if_neg e, if_neg e1]
      exact h
theorem KdRel.put {xs : List KE} {kvs : List (D × D)} (r : KdRel K H G xs kvs) {q d : D} {k : NestedKey} {b : Addr} {u : Value} {v : V} (hk : nkey q = some k) (hd : k.depth ≤ 8) (rb : Rp K H G (.ref b) q) (ru : RelV v u) (rv : Rp K H G v d) : KdRel K H G (storedH xs k b u) (putKd kvs q d) := by
  have e := r.any (q := q) hk
  unfold storedH putKd
  rw [← e]
  by_cases z : (atKey xs k).isSome = true
  · rw [if_pos z, if_pos z]; exact r.repl hk ru rv
  · rw [if_neg z, if_neg z]; exact Paired.snoc r ⟨hk, hd, rb, v, ru, rv⟩
theorem stored_keys (xs : List KE) (k : NestedKey) (b : Addr) (u : Value) : (storedH xs k b u).map (·.1) = if (atKey xs k).isSome = true then xs.map (·.1) else xs.map (·.1) ++ [k] := by
  unfold storedH
  split
  · rw [List.map_map]
    refine List.map_congr_left fun x _ => ?_
    show (putAt k u x).1 = x.1
    unfold putAt; split <;> rfl
  · rw [List.map_append]; rfl
theorem stored_nodup {xs : List KE} (h : (xs.map (·.1)).Nodup) (k : NestedKey) (b : Addr) (u : Value) : ((storedH xs k b u).map (·.1)).Nodup := by
  rw [stored_keys]
  split
  · exact h
  · rename_i z
    rw [List.nodup_append]
    refine ⟨h, by simp, fun x hx y hy => ?_⟩
    rw [List.mem_singleton] at hy
    subst hy
    rintro rfl
    obtain ⟨p, hp, rfl⟩ := List.mem_map.mp hx
    refine z ?_
    unfold atKey
    rw [Option.isSome_map, List.find?_isSome]
    exact ⟨p, hp, by simp⟩
theorem kd_at {env : Env} {σ : L2.St} {fps : Fs} (E : EnvR K env σ H G fps) {p : P} {v : V} {fp : List Addr} {kvs : List (D × D)} (h : PR K H G σ env p v fp) (e : kdP p env = some kvs) : ∃ a xs, v = .ref a ∧ KdAt K H a xs ∧ xs.length = kvs.length := by
  have main : ∀ {v : V} {fp : List Addr}, Ow K H G (.kd kvs) v fp → ∃ a xs, v = .ref a ∧ KdAt K H a xs ∧ xs.length = kvs.length := fun h => by
    obtain ⟨a, xs, rfl, rfl, ng, hl, hr, hn⟩ := h
    exact ⟨a, xs, rfl, ⟨hl, hr.keys, hn⟩, hr.length⟩
  cases p with
  | val o =>
    cases o <;> try cases e
    exact main h
  | plc i =>
    unfold kdP at e
    simp only at e
    split at e
    · rename_i kvs' hs
      cases e
      obtain ⟨w, hw, how⟩ := E.rep i _ hs
      rw [h.2] at hw
      cases hw
      exact main how
    · cases e
  | plf i k => cases e
end
section
variable {c : Ct} {N : List Str} {sc : Scope} {fn : Str → Bool}
theorem se_kd0 {pos : Pos} : SE c N sc fn (.Dict [] [] pos) .kd0 := by
  intro X W ok env σ H G fps out Q E he hq
  simp only [evalE_kd0] at he
  cases he
  refine tE_of pe_kdNew ?_
  intro p hp
  have sm : Same H (upd H p (.ext (RawD p []))) := same_upd hp
  have nG : ¬ G p := fun g => by obtain ⟨u, e⟩ := E.gh p g; rw [hp] at e; cases e
  have nF : ¬ FF fps p := fun f => by obtain ⟨_, u, e⟩ := E.held f; rw [hp] at e; cases e
  refine hq (.ref p) _ G fps [p] ⟨E.same sm, Same.stepF sm, fun b hb => ?_, fun b hb => ?_⟩ ⟨p, [], rfl, rfl, nG, upd_same, .nil, List.nodup_nil⟩ fun _ => sm
  · have : b = p := by simpa using hb
    subst this; exact .inr hp
  · have : b = p := by simpa using hb
    subst this; exact nF
theorem se_lenk {a : CE} {y : Expr} {p pos : Pos} (hg : glB sc "len" = true) (hs : isStar y = false) (h : SE c N sc fn y a) : SE c N sc fn (.Call (.Name "len" p) [y] [] pos) (.lenk a) := by
  intro X W ok env σ H G fps out Q E he hq
  simp only [evalE_lenk] at he
  have hst := star_ok hs [] X.env
  obtain ⟨n1, n2⟩ := biName_nm .len
  refine tE_of (pe_callB (id := "len") call_kdLen (ok.gl hg) (ok.bl (biName_in .len)) (bi_boot .len) (pa_cons (peS X y) pa_nil hst) n2 n1 hst rfl) ?_
  rcases bnd_ways he with ⟨p1, env1, e1, he⟩ | ⟨z, env1, e1, rfl⟩
  · refine h X W ok env σ H G fps _ _ E e1 fun v H1 G1 fps1 fpt1 a1 r1 s1 => ?_
    split at he
    · rename_i kvs hk
      cases he
      obtain ⟨a', xs, rfl, kd, hlen⟩ := kd_at a1.E r1 hk
      refine ⟨a', xs, rfl, by rw [ok.eK]; exact kd, ?_⟩
      rw [hlen]
      exact hq _ H1 G1 fps1 [] a1.drop ⟨rfl, .int _⟩ fun hn => s1 (by simpa only [noeff_lenk] using hn)
    · cases he
  · exact h X W ok env σ H G fps _ _ E e1 fun cls d H1 G1 fps1 a1 x1 => hq cls d H1 G1 fps1 a1 x1
/-! ### comprehensions -/
theorem compK_cons {turn : D → Env → Option (Out (Option (D × D)))} {d : D} {ds : List D} {acc r : List (D × D)} {env env2 : Env} (h : compK turn (d :: ds) env acc = some (.ok r env2)) :
    (∃ p env3, turn d env = some (.ok (some p) env3) ∧ keyOkD p.1 = true ∧ compK turn ds env3 (putKd acc p.1 p.2) = some (.ok r env2)) ∨ (∃ env3, turn d env = some (.ok none env3) ∧ compK turn ds env3 acc = some (.ok r env2)) := by
  unfold compK at h
  split at h
  · rename_i p env3 e
    split at h
    · rename_i hk; exact .inl ⟨p, env3, e, hk, h⟩
    · cases h
  · rename_i env3 e; exact .inr ⟨env3, e, h⟩
  · cases h
def CompKI (K : PySem.W.Frag) (own : List Nat) (σ : L2.St) (turn : D → Env → Option (Out (Option (D × D)))) (items : List D) (kvs : List (D × D)) (env2 : Env) (R0 : Hp → (Addr → Prop) → Prop) (b : Addr) (H1 : Hp) (G1 : Addr → Prop) (fps1 : Fs) (i : Nat) (H : Hp) : Prop :=
  ∃ env G fps acc xs, EnvR K env (L2.wipe σ own) H G fps ∧ Step H1 G1 (FF fps1) H G (FF fps) ∧ H b = some (.ext (RawD b xs)) ∧ ¬ G b ∧ ¬ FF fps b ∧ KdRel K H G xs acc ∧ (xs.map (·.1)).Nodup ∧ compK turn (items.drop i) env acc = some (.ok kvs env2) ∧ xs.length ≤ i ∧ R0 H G ∧ (∀ j ∈ own, slot env j = none)
theorem kcomp_ok {X : Cx} {W : WX} {own : List Nat} {t : CT} {src : CI} {cond : CB} {key val : CE} {kx vx tg it : Expr} {ifs : List Expr} {scope : Scope} (ok : CtxOk c X W N sc fn) (hi : SI c N sc fn tg it src) (hk : SE c N (relS scope sc) (fnB scope) kx key) (hv : SE c N (relS scope sc) (fnB scope) vx val) (hc : SBs c N (relS scope sc) (fnB scope) ifs cond)
    {env : Env} {σ : L2.St} {H : Hp} {G : Addr → Prop} {fps : Fs} {out : Out P} {Q : VK} (E : EnvR c.K env σ H G fps) (hev : evalE c.Γ (.kcomp own t src cond key val) env = some out) (hq : GE c W σ H G fps (noeff (.kcomp own t src cond key val)) Q out) :
    tKc X.K (tI X tg it) (gT X.K t) (cT X scope ifs) (cE X scope kx) (cE X scope vx) own σ H Q := by
  simp only [evalE_kcomp] at hev
  rcases bnd_ways hev with ⟨items, env1, e1, hev⟩ | ⟨y, env1, e1, rfl⟩
  rotate_left
  · exact hi X W ok env σ H G fps _ _ E e1 fun cls d H1 G1 fps1 a1 x1 => hq cls d H1 G1 fps1 a1 x1
  split at hev
  rotate_left
  · cases hev
  rename_i hg
  simp only [Bool.and_eq_true, decide_eq_true_eq] at hg
  obtain ⟨⟨hg1, hg2⟩, hg3⟩ := hg
  split at hev
  rotate_left
  · cases hev
  rename_i kvs env2 hcl
  cases hev
  refine hi X W ok env σ H G fps _ _ E e1 fun J H1 G1 fps1 a1 src1 s1 => ?_
  obtain ⟨R0, r0, rst, rd⟩ := src1
  intro b hb
  have nG : ¬ G1 b := fun g => by obtain ⟨u, e⟩ := a1.E.gh b g; rw [hb] at e; cases e
  have nF : ¬ FF fps1 b := fun f => by obtain ⟨_, u, e⟩ := a1.E.held f; rw [hb] at e; cases e
  refine ⟨fun i m H' => m = items.length - i ∧ i ≤ items.length ∧ CompKI c.K own σ (compTurnK own (setT t) (evalT c.Γ cond) (evalE c.Γ key) (evalE c.Γ val)) items kvs env2 R0 b H1 G1 fps1 i H', ⟨items.length, (Nat.sub_zero _).symm, Nat.zero_le _, ?_⟩, ?_⟩
  · have sm : Same H1 (upd H1 b (.ext (RawD b []))) := same_upd hb
    exact ⟨_, G1, fps1, [], [], (a1.E.wipe hg2).same sm, Same.stepF sm, upd_same, nG, nF, .nil, List.nodup_nil, hcl, Nat.le_refl _, rst _ _ F0 _ _ F0 (Same.step sm) (fun _ _ f => f) r0, wipe_none⟩
  rintro i m H' ⟨rfl, hile, env', G', fps', acc, xs, E', S', hbl, nG', nF', rA, hnd, hcl', hal, r0', hno⟩
  by_cases hil : i < items.length
  rotate_left
  · have e : i = items.length := by omega
    subst e
    rw [List.drop_length] at hcl'
    cases hcl'
    refine .inl ⟨(rd _ H' G' r0').2 (Nat.le_refl _), ?_⟩
    refine hq _ H' G' fps' [b] ⟨a1.E.back E' S' hg2 hno, a1.S.trans S', fun x hx => ?_, fun x hx => ?_⟩ ⟨b, xs, rfl, rfl, nG', hbl, rA, hnd⟩ fun hn => ?_
    · have : x = b := by simpa using hx
      subst this
      exact (a1.S.none_of hb).symm
    · have : x = b := by simpa using hx
      subst this
      exact nF'
    · simp only [noeff_kcomp] at hn
      cases hn
  · rw [List.drop_eq_getElem_cons hil] at hcl'
    obtain ⟨go, yl⟩ := (rd i H' G' r0').1 items[i] (List.getElem?_eq_getElem hil)
    refine .inr ⟨go, CompKI c.K own σ (compTurnK own (setT t) (evalT c.Γ cond) (evalE c.Γ key) (evalE c.Γ val)) items kvs env2 R0 b H1 G1 fps1 (i + 1), fun H2 n2 => ⟨items.length - (i + 1), by omega, rfl, hil, n2⟩, fun x H2 y => ?_⟩
    obtain ⟨sm2, rx⟩ := yl x H2 y
    -- the turn told
    have turned : ∃ o env3, compTurnK own (setT t) (evalT c.Γ cond) (evalE c.Γ key) (evalE c.Γ val) items[i] env' = some (.ok o env3) ∧ (∀ p, o = some p → keyOkD p.1 = true ∧ compK (compTurnK own (setT t) (evalT c.Γ cond) (evalE c.Γ key) (evalE c.Γ val)) (items.drop (i + 1)) env3 (putKd acc p.1 p.2) = some (.ok kvs env2)) ∧
        (o = none → compK (compTurnK own (setT t) (evalT c.Γ cond) (evalE c.Γ key) (evalE c.Γ val)) (items.drop (i + 1)) env3 acc = some (.ok kvs env2)) := by
      rcases compK_cons hcl' with ⟨p, env3, h1, h2, h3⟩ | ⟨env3, h1, h2⟩
      · exact ⟨some p, env3, h1, fun p' hp => by cases hp; exact ⟨h2, h3⟩, fun z => nomatch z⟩
      · exact ⟨none, env3, h1, (fun p' hp => nomatch hp), fun _ => h2⟩
    obtain ⟨o, env3, ht, hsome, hnone⟩ := turned
    unfold compTurnK at ht
    split at ht
    rotate_left
    · cases ht
    rename_i ea hea
    have hb2 : H2 b = some (.ext (RawD b xs)) := sm2 _ _ hbl
    rw [ok.eK]
    refine gT_ok (E'.same sm2) rx hea fun σ2 fps2 E2 hf2 hσ2 hl2 => ?_
    have hw : L2.wipe σ2 own = L2.wipe σ own := by
      have := wipe_ext (σ := L2.wipe σ own) (σ2 := σ2) (own := own) hl2 fun j hj => hσ2 j fun hm => hj (tgIn_ok hg1 j hm)
      rw [this]
      exact wipe_ext (wipe_length σ own) fun j hj => by rw [wipe_get, if_neg hj]
    refine ⟨hw, ?_⟩
    have S2 : Step H1 G1 (FF fps1) H2 G' (FF fps2) := by
      have z := S'.trans (Same.stepF sm2 (G := G') (F := FF fps'))
      exact ⟨z.keep, z.tups, z.frzs, z.gsub, z.gnew, fun x hx => z.fnew x (hf2 x hx)⟩
    have nF2 : ¬ FF fps2 b := fun f => nF' (hf2 b f)
    have rA2 : KdRel c.K H2 G' xs acc := rA.mono (same_sub sm2)
    have r02 : R0 H2 G' := rst _ _ F0 _ _ F0 (Same.step sm2) (fun _ _ f => f) r0'
    have fin : ∀ {ed : Env} {H4 : Hp} {G4 : Addr → Prop} {fps4 : Fs}, Aft c.K σ2 H2 G' fps2 ed H4 G4 fps4 [] → own.all (frOk ed) = true → env3 = wipeE ed own →
        (EnvR c.K env3 (L2.wipe σ own) H4 G4 fps4 ∧ Step H1 G1 (FF fps1) H4 G4 (FF fps4) ∧ H4 b = some (.ext (RawD b xs)) ∧ ¬ G4 b ∧ ¬ FF fps4 b ∧ KdRel c.K H4 G4 xs acc ∧ R0 H4 G4) := fun {ed H4 G4 fps4} a4 hfr e3 => by
      subst e3
      have z := a4.E.wipe hfr
      rw [hw] at z
      refine ⟨z, S2.trans a4.S, a4.S.keep b _ hb2 nF2, fun g => ?_, fun f => ?_, rA2.mono (a4.S.sub E2.gf), rst _ _ _ _ _ _ a4.S E2.gf r02⟩
      · rcases a4.S.gnew b g with z | z | z
        · exact nG' z
        · exact nF2 z
        · rw [hb2] at z; cases z
      · rcases a4.S.fnew b f with z | z
        · exact nF2 z
        · rw [hb2] at z; cases z
    intro s0 H00 C cl fp
    have okb := ok.blk scope s0 H00 C cl fp
    rcases bnd_ways ht with ⟨cb, eb, e4, ht⟩ | ⟨z, eb, e4, ht⟩
    rotate_left
    · cases ht
    refine hc _ _ okb ea σ2 H2 G' fps2 _ _ E2 e4 fun H3 G3 fps3 a3 s3 => ?_
    cases cb with
    | false =>
      rw [if_neg Bool.false_ne_true] at ht ⊢
      split at ht
      rotate_left
      · cases ht
      rename_i hfr
      cases ht
      obtain ⟨f1, f2, f3, f4, f5, f6, f7⟩ := fin a3 hfr rfl
      exact ⟨_, G3, fps3, acc, xs, f1, f2, f3, f4, f5, f6, hnd, hnone rfl, Nat.le_succ_of_le hal, f7, wipe_none⟩
    | true =>
      rw [if_pos rfl] at ht ⊢
      rcases bnd_ways ht with ⟨p, ec, e5, ht⟩ | ⟨z, ec, e5, ht⟩
      rotate_left
      · cases ht
      rcases bnd_ways ht with ⟨yd, ed, e6, ht⟩ | ⟨z, ed, e6, ht⟩
      rotate_left
      · cases ht
      rcases bnd_ways ht with ⟨q, ee, e7, ht⟩ | ⟨z, ee, e7, ht⟩
      rotate_left
      · cases ht
      rcases bnd_ways ht with ⟨zd, ef, e8, ht⟩ | ⟨z, ef, e8, ht⟩
      rotate_left
      · cases ht
      split at ht
      rotate_left
      · cases ht
      rename_i hfr
      cases ht
      obtain ⟨hko, hrest⟩ := hsome _ rfl
      intro s01 H01 C1 cl1 fp1
      refine hk _ _ (ok.blk scope s01 H01 C1 cl1 fp1) eb σ2 H3 G3 fps3 _ _ a3.E e5 fun v H4 G4 fps4 fpt4 a4 r4 s4 => ?_
      obtain ⟨G5, fps5, a5, r5⟩ := frz_ok a4 r4 e6
      intro s02 H02 C2 cl2 fp2
      refine hv _ _ (ok.blk scope s02 H02 C2 cl2 fp2) ed σ2 H4 G5 fps5 _ _ a5.E e7 fun v2 H6 G6 fps6 fpt6 a6 r6 s6 => ?_
      obtain ⟨G7, fps7, a7, r7⟩ := frz_ok a6 r6 e8
      have r5' : Rp c.K H6 G7 v yd := dp_mono (a7.S.sub a5.E.gf) _ _ r5
      obtain ⟨f1, f2, f3, f4, f5, f6, f7⟩ := fin ((a3.next a5).next a7) hfr rfl
      obtain ⟨bk, k, rfl, hnk, hdk, kh⟩ := key_ref hko r5'
      refine ⟨bk, xs, k, rfl, ⟨f3, f6.keys, hnd⟩, kh, ?_, fun u hu => ?_⟩
      · rw [← lim_eq]; omega
      have hst : Step H6 G7 (· = b) (upd H6 b (.ext (RawD b (storedH xs k bk u)))) G7 (· = b) := step_ext f3
      have dG : ∀ x, G7 x → ¬ x = b := fun x g e => by rw [e] at g; exact f4 g
      have dF : ∀ x, FF fps7 x → ¬ x = b := fun x g e => by rw [e] at g; exact f5 g
      refine ⟨_, G7, fps7, putKd acc yd zd, storedH xs k bk u, f1.step hst dF dG (gheld_upd f1.gh), f2.updNew hb, upd_same, f4, f5, (f6.put hnk hdk r5' hu r7).mono (hst.sub dG), stored_nodup hnd k bk u, hrest, ?_, rst _ _ _ _ _ _ hst dG f7, wipe_none⟩
      have := storedH_len xs k bk u
      omega
theorem se_kcomp {own : List Nat} {t : CT} {src : CI} {cond : CB} {key val : CE} {kx vx tg it : Expr} {ifs : List Expr} {scope : Scope} {pos : Pos} (hb : blkC N sc scope (ownP N own) = true) (hset : isSet it = false) (hi : SI c N sc fn tg it src) (ht : mT N (relS scope sc) (fnB scope) t tg = true)
    (hk : SE c N (relS scope sc) (fnB scope) kx key) (hv : SE c N (relS scope sc) (fnB scope) vx val) (hc : SBs c N (relS scope sc) (fnB scope) ifs cond) : SE c N sc fn (.DictComp kx vx [⟨tg, it, ifs, 0⟩] scope pos) (.kcomp own t src cond key val) := by
  intro X W ok env σ H G fps out Q E hev hq
  have hbk : BlkOk X.N X.env.scope scope (ownP N own) := by
    rw [ok.eN, ok.eS]; exact blkOk_by hb
  have := pe_kc (X := X) (kx := kx) (vx := vx) (pos := pos) (wi := tI X tg it) (g := gT X.K t) (tt := cT X scope ifs) (tk := cE X scope kx) (tv := cE X scope vx) ok.hu ok.calm (by rw [ok.eN]; exact ok.nd) (piS X tg it) hbk
    (fun s H C cl fp => pg_T (ok.blk scope s H C cl fp) ht) (fun s H C cl fp => ⟨fun pins s' σ H' Q I h => h s H C cl fp pins s' I⟩) (fun s H C cl fp => ⟨fun pins s' σ H' Q I h => h s H C cl fp pins s' I⟩) (fun s H C cl fp => ⟨fun pins s' σ H' Q I h => h s H C cl fp pins s' I⟩) (fun x => notSet_ok hset X.env x)
  rw [ownP_snd] at this
  exact tE_of this (kcomp_ok ok hi hk hv hc E hev hq)
end
end NW
end
section
set_option linter.all false
set_option maxRecDepth 100000
set_option maxHeartbeats 2000000
/-! NWm: all expressions -/
namespace NW
open PySem L2 PyProof.Rows
def isCmp : CE → Bool
  | .cmp _ _ _ | .chain _ _ _ _ _ | .isN _ | .notN _ => true
  | _ => false
section
variable {c : Ct} {N : List Str}
theorem mE_compare {a : CE} (h : isCmp a = false) {sc : Scope} {fn : Str → Bool} {l : Expr} {ops : List CmpOp} {rs : List Expr} {p : Pos} : mE N a sc fn (.Compare l ops rs p) = false := by
  cases a
  case lit d => cases d <;> rw [mE_lit]
  case var => rw [mE_var]
  case glob => rw [mE_glob]
  case tup => rw [mE_tup]
  case tups => rw [mE_tups]
  case sset => rw [mE_sset]
  case lst => rw [mE_lst]
  case dct => rw [mE_dct]
  case bin => rw [mE_bin]
  case and => rw [mE_and]
  case or => rw [mE_or]
  case not => rw [mE_not]
  case neg => rw [mE_neg]
  case ite => rw [mE_ite]
  case ix => rw [mE_ix]
  case fld => rw [mE_fld]
  case sl => rw [mE_sl]
  case bi => rw [mE_bi]
  case isi => rw [mE_isi]
  case idx => rw [mE_idx]
  case call => rw [mE_call]
  case cio => rw [mE_cio]
  case comp => rw [mE_comp]
  case comp2 => rw [mE_comp2]
  case kd0 => rw [mE_kd0]
  case lenk => rw [mE_lenk]
  case kcomp => rw [mE_kcomp]
  all_goals cases h
theorem mB_plain {a : CE} (h : isCmp a = false) {sc : Scope} {fn : Str → Bool} {x : Expr} (m : mB N (.of a) sc fn x = true) : mE N a sc fn x = true ∧ ∀ env whole, isTrue x env whole = (do let v ← whole; standAt x.pos; holding [v] (truthy v)) := by
  rw [mB_of] at m
  cases x
  case UnaryOp o y p =>
    cases o
    case Not => cases m
    all_goals exact ⟨m, fun _ _ => rfl⟩
  case BoolOp => cases m
  case IfExp => cases m
  case Compare l o r p =>
    have m' : mE N a sc fn (.Compare l o r p) = true := m
    rw [mE_compare h] at m'; cases m'
  all_goals exact ⟨m, fun _ _ => rfl⟩
theorem mB_cmp {a : CE} (h : isCmp a = true) {sc : Scope} {fn : Str → Bool} {x : Expr} (m : mB N (.of a) sc fn x = true) : mE N a sc fn x = true := by
  rw [mB_of] at m
  split at m
  · cases m
  · cases m
  · cases m
  · exact m
theorem one3 {α : Type} {p q : Bool} (h : (p && q) = true) : p = true ∧ q = true := by simpa using h
mutual
theorem snd_E : ∀ (a : CE) (sc : Scope) (fn : Str → Bool) (e : Expr), mE N a sc fn e = true → SE c N sc fn e a
  | .lit d, sc, fn, e, h => se_lit h
  | .var i, sc, fn, e, h => se_var h
  | .glob x, sc, fn, e, h => se_glob h
  | .tup es, sc, fn, e, h => by
    rw [mE_tup] at h
    split at h
    · exact se_tup (snd_Ds es sc fn _ h)
    · cases h
  | .sset a, sc, fn, e, h => by
    rw [mE_sset] at h
    split at h
    · obtain ⟨h, h6⟩ := one3 (α := Nat) h
      obtain ⟨h, h5⟩ := one3 (α := Nat) h
      obtain ⟨h, h4⟩ := one3 (α := Nat) h
      obtain ⟨h, h3⟩ := one3 (α := Nat) h
      obtain ⟨h1, h2⟩ := one3 (α := Nat) h
      rw [decide_eq_true_eq] at h1 h3
      subst h1
      subst h3
      exact se_sset h2 h4 (by simpa using h5) (snd_E a sc fn _ h6)
    · cases h
  | .tups a es, sc, fn, e, h => by
    rw [mE_tups] at h
    split at h
    · obtain ⟨h1, h2⟩ := one3 (α := Nat) h
      exact se_tups (snd_E a sc fn _ h1) (snd_Ds es sc fn _ h2)
    · cases h
  | .lst es, sc, fn, e, h => by
    rw [mE_lst] at h
    split at h
    · exact se_lst (snd_Ds es sc fn _ h)
    · cases h
  | .dct ks es, sc, fn, e, h => by
    rw [mE_dct] at h
    split at h
    · simp only [Bool.and_eq_true, decide_eq_true_eq] at h
      obtain ⟨⟨⟨⟨h1, h2⟩, h3⟩, h4⟩, h5⟩ := h
      exact se_dct h4 h5 h1 h3 (snd_Fs es sc fn _ h2)
    · cases h
  | .bin k a b, sc, fn, e, h => by
    rw [mE_bin] at h
    split at h
    · simp only [Bool.and_eq_true, decide_eq_true_eq] at h
      obtain ⟨⟨rfl, h2⟩, h3⟩ := h
      exact se_bin (snd_E a sc fn _ h2) (snd_E b sc fn _ h3)
    · cases h
  | .cmp k a b, sc, fn, e, h => by
    rw [mE_cmp] at h
    split at h
    · simp only [Bool.and_eq_true, decide_eq_true_eq, Bool.not_eq_true'] at h
      obtain ⟨⟨⟨rfl, h1⟩, h2⟩, h3⟩ := h
      exact se_cmp h1 (snd_E a sc fn _ h2) (snd_E b sc fn _ h3)
    · cases h
  | .chain k l a b d, sc, fn, e, h => by
    rw [mE_chain] at h
    split at h
    · simp only [Bool.and_eq_true, decide_eq_true_eq] at h
      obtain ⟨⟨⟨⟨⟨⟨⟨⟨rfl, rfl⟩, h3⟩, h4⟩, h5⟩, h6⟩, h7⟩, h8⟩, h9⟩ := h
      exact se_chain h5 h6 (snd_E a sc fn _ h7) (snd_E b sc fn _ h8) (snd_E d sc fn _ h9)
    · cases h
  | .isN a, sc, fn, e, h => by
    rw [mE_isN] at h
    split at h
    · exact se_isN (snd_E a sc fn _ h)
    · cases h
  | .notN a, sc, fn, e, h => by
    rw [mE_notN] at h
    split at h
    · exact se_notN (snd_E a sc fn _ h)
    · cases h
  | .and a b, sc, fn, e, h => by
    rw [mE_and] at h
    split at h
    · obtain ⟨h1, h2⟩ := one3 (α := Nat) h
      exact se_and1 (snd_E a sc fn _ h1) (snd_E b sc fn _ h2)
    · obtain ⟨h1, h2⟩ := one3 (α := Nat) h
      exact se_and2 (snd_E a sc fn _ h1) (snd_E b sc fn _ h2)
    · cases h
  | .or a b, sc, fn, e, h => by
    rw [mE_or] at h
    split at h
    · obtain ⟨h1, h2⟩ := one3 (α := Nat) h
      exact se_or1 (snd_E a sc fn _ h1) (snd_E b sc fn _ h2)
    · obtain ⟨h1, h2⟩ := one3 (α := Nat) h
      exact se_or2 (snd_E a sc fn _ h1) (snd_E b sc fn _ h2)
    · cases h
  | .not a, sc, fn, e, h => by
    rw [mE_not] at h
    split at h
    · exact se_not (snd_E a sc fn _ h)
    · cases h
  | .neg a, sc, fn, e, h => by
    rw [mE_neg] at h
    split at h
    · exact se_neg (snd_E a sc fn _ h)
    · cases h
  | .ite t a b, sc, fn, e, h => by
    rw [mE_ite] at h
    split at h
    · simp only [Bool.and_eq_true] at h
      obtain ⟨⟨h1, h2⟩, h3⟩ := h
      exact se_ite (snd_B t sc fn _ h1) (snd_E a sc fn _ h2) (snd_E b sc fn _ h3)
    · cases h
  | .ix a i, sc, fn, e, h => by
    rw [mE_ix] at h
    split at h
    · simp only [Bool.and_eq_true, Bool.not_eq_true'] at h
      obtain ⟨⟨h1, h2⟩, h3⟩ := h
      exact se_ix h1 (snd_E a sc fn _ h2) (snd_E i sc fn _ h3)
    · cases h
  | .fld i k, sc, fn, e, h => by
    rw [mE_fld] at h
    split at h
    · obtain ⟨h1, h2⟩ := one3 (α := Nat) h
      rw [decide_eq_true_eq] at h2
      subst h2
      exact se_fld h1
    · cases h
  | .sl a lo hi, sc, fn, e, h => by
    rw [mE_sl] at h
    split at h
    · simp only [Bool.and_eq_true] at h
      obtain ⟨⟨h1, h2⟩, h3⟩ := h
      exact se_sl (snd_E a sc fn _ h1) (snd_O lo sc fn _ h2) (snd_O hi sc fn _ h3)
    · cases h
  | .bi b es, sc, fn, e, h => by
    rw [mE_bi] at h
    split at h
    · simp only [Bool.and_eq_true, decide_eq_true_eq] at h
      obtain ⟨⟨h1, h2⟩, h3⟩ := h
      exact se_bi h1 h2 h3 (snd_Ps es sc fn _ h3)
    · cases h
  | .idx a y, sc, fn, e, h => by
    rw [mE_idx] at h
    split at h
    · obtain ⟨h, h5⟩ := one3 (α := Nat) h
      obtain ⟨h, h4⟩ := one3 (α := Nat) h
      obtain ⟨h, h3⟩ := one3 (α := Nat) h
      obtain ⟨h1, h2⟩ := one3 (α := Nat) h
      rw [decide_eq_true_eq] at h1
      subst h1
      exact se_idx h2 (by simpa using h3) (snd_E a sc fn _ h4) (snd_E y sc fn _ h5)
    · cases h
  | .isi a T, sc, fn, e, h => by
    rw [mE_isi] at h
    split at h
    · simp only [Bool.and_eq_true, decide_eq_true_eq, Bool.not_eq_true'] at h
      obtain ⟨⟨⟨⟨⟨rfl, h2⟩, rfl⟩, h4⟩, h5⟩, h6⟩ := h
      exact se_isi h2 h4 h6 (snd_E a sc fn _ h5)
    · cases h
  | .call f es, sc, fn, e, h => by
    rw [mE_call] at h
    split at h
    · simp only [Bool.and_eq_true, decide_eq_true_eq] at h
      obtain ⟨⟨rfl, h2⟩, h3⟩ := h
      exact se_call h2 h3 (snd_Ds es sc fn _ h3)
    · cases h
  | .cio f i es, sc, fn, e, h => by
    rw [mE_cio] at h
    split at h
    · obtain ⟨h, h6⟩ := one3 (α := Nat) h
      obtain ⟨h, h5⟩ := one3 (α := Nat) h
      obtain ⟨h, h4⟩ := one3 (α := Nat) h
      obtain ⟨h, h3⟩ := one3 (α := Nat) h
      obtain ⟨h1, h2⟩ := one3 (α := Nat) h
      rw [decide_eq_true_eq] at h1
      subst h1
      exact se_cio h2 (by rw [h3, h4, h5]; rfl) h6 (snd_Ds es sc fn _ h6)
    · cases h
  | .comp own t src cond elt, sc, fn, e, h => by
    rw [mE_comp] at h
    split at h
    · rename_i el tg it ifs scope pos
      obtain ⟨h, h6⟩ := one3 (α := Nat) h
      simp only [Bool.and_eq_true, Bool.not_eq_true'] at h
      obtain ⟨⟨⟨⟨h1, h2⟩, h3⟩, h4⟩, h5⟩ := h
      refine se_comp h1 h2 (snd_I src sc fn _ _ h3) h4 (snd_E elt _ _ _ h5) ?_
      split at h6
      · split at h6
        · exact sbs_nil
        · cases h6
      · exact sbs_one (snd_B cond _ _ _ h6)
      · cases h6
    · cases h
  | .comp2 own t src own1 t1 src1 elt, sc, fn, e, h => by
    rw [mE_comp2] at h
    split at h
    · rename_i el tg it tg1 it1 scope pos
      simp only [Bool.and_eq_true, Bool.not_eq_true'] at h
      obtain ⟨⟨⟨⟨⟨⟨⟨⟨h1, h2⟩, h3⟩, h4⟩, h5⟩, h6⟩, h7⟩, h8⟩, h9⟩ := h
      exact se_comp2 h1 h2 h3 h4 (snd_I src sc fn _ _ h5) h6 (snd_I src1 _ _ _ _ h7) h8 (snd_E elt _ _ _ h9)
    · cases h
  | .kd0, sc, fn, e, h => by
    rw [mE_kd0] at h
    split at h
    · exact se_kd0
    · cases h
  | .lenk a, sc, fn, e, h => by
    rw [mE_lenk] at h
    split at h
    · obtain ⟨h, h4⟩ := one3 (α := Nat) h
      obtain ⟨h, h3⟩ := one3 (α := Nat) h
      obtain ⟨h1, h2⟩ := one3 (α := Nat) h
      rw [decide_eq_true_eq] at h1
      subst h1
      exact se_lenk h2 (by simpa using h3) (snd_E a sc fn _ h4)
    · cases h
  | .kcomp own t src cond key val, sc, fn, e, h => by
    rw [mE_kcomp] at h
    split at h
    · rename_i kx vx tg it ifs scope pos
      obtain ⟨h, h7⟩ := one3 (α := Nat) h
      simp only [Bool.and_eq_true, Bool.not_eq_true'] at h
      obtain ⟨⟨⟨⟨⟨h1, h2⟩, h3⟩, h4⟩, h5⟩, h6⟩ := h
      refine se_kcomp h1 h2 (snd_I src sc fn _ _ h3) h4 (snd_E key _ _ _ h5) (snd_E val _ _ _ h6) ?_
      split at h7
      · split at h7
        · exact sbs_nil
        · cases h7
      · exact sbs_one (snd_B cond _ _ _ h7)
      · cases h7
    · cases h
theorem snd_B : ∀ (a : CB) (sc : Scope) (fn : Str → Bool) (e : Expr), mB N a sc fn e = true → SB c N sc fn e a
  | .yes, sc, fn, e, h => by rw [mB_yes] at h; cases h
  | .and a b, sc, fn, e, h => by
    rw [mB_and] at h
    split at h
    · obtain ⟨h1, h2⟩ := one3 (α := Nat) h
      exact sb_and1 (snd_B a sc fn _ h1) (snd_B b sc fn _ h2)
    · obtain ⟨h1, h2⟩ := one3 (α := Nat) h
      exact sb_and2 (snd_B a sc fn _ h1) (snd_B b sc fn _ h2)
    · cases h
  | .or a b, sc, fn, e, h => by
    rw [mB_or] at h
    split at h
    · obtain ⟨h1, h2⟩ := one3 (α := Nat) h
      exact sb_or1 (snd_B a sc fn _ h1) (snd_B b sc fn _ h2)
    · obtain ⟨h1, h2⟩ := one3 (α := Nat) h
      exact sb_or2 (snd_B a sc fn _ h1) (snd_B b sc fn _ h2)
    · cases h
  | .not a, sc, fn, e, h => by
    rw [mB_not] at h
    split at h
    · exact sb_not (snd_B a sc fn _ h)
    · cases h
  | .of (.cmp k a b), sc, fn, e, h => by
    replace h := mB_cmp rfl h
    rw [mE_cmp] at h
    split at h
    · simp only [Bool.and_eq_true, decide_eq_true_eq, Bool.not_eq_true'] at h
      obtain ⟨⟨⟨rfl, h1⟩, h2⟩, h3⟩ := h
      exact sb_cmp h1 (snd_E a sc fn _ h2) (snd_E b sc fn _ h3)
    · cases h
  | .of (.chain k l a b d), sc, fn, e, h => by
    replace h := mB_cmp rfl h
    rw [mE_chain] at h
    split at h
    · simp only [Bool.and_eq_true, decide_eq_true_eq] at h
      obtain ⟨⟨⟨⟨⟨⟨⟨⟨rfl, rfl⟩, h3⟩, h4⟩, h5⟩, h6⟩, h7⟩, h8⟩, h9⟩ := h
      exact sb_chain h5 h6 (snd_E a sc fn _ h7) (snd_E b sc fn _ h8) (snd_E d sc fn _ h9)
    · cases h
  | .of (.isN a), sc, fn, e, h => by
    replace h := mB_cmp rfl h
    rw [mE_isN] at h
    split at h
    · exact sb_isN (snd_E a sc fn _ h)
    · cases h
  | .of (.notN a), sc, fn, e, h => by
    replace h := mB_cmp rfl h
    rw [mE_notN] at h
    split at h
    · exact sb_notN (snd_E a sc fn _ h)
    · cases h
  | .of (.lit d), sc, fn, e, h => let ⟨h1, h2⟩ := mB_plain rfl h; sb_plain h2 (snd_E (.lit d) sc fn _ h1)
  | .of (.var i), sc, fn, e, h => let ⟨h1, h2⟩ := mB_plain rfl h; sb_plain h2 (snd_E (.var i) sc fn _ h1)
  | .of (.glob x), sc, fn, e, h => let ⟨h1, h2⟩ := mB_plain rfl h; sb_plain h2 (snd_E (.glob x) sc fn _ h1)
  | .of (.tup es), sc, fn, e, h => let ⟨h1, h2⟩ := mB_plain rfl h; sb_plain h2 (snd_E (.tup es) sc fn _ h1)
  | .of (.sset a), sc, fn, e, h => let ⟨h1, h2⟩ := mB_plain rfl h; sb_plain h2 (snd_E (.sset a) sc fn _ h1)
  | .of (.tups a es), sc, fn, e, h => let ⟨h1, h2⟩ := mB_plain rfl h; sb_plain h2 (snd_E (.tups a es) sc fn _ h1)
  | .of (.lst es), sc, fn, e, h => let ⟨h1, h2⟩ := mB_plain rfl h; sb_plain h2 (snd_E (.lst es) sc fn _ h1)
  | .of (.dct ks es), sc, fn, e, h => let ⟨h1, h2⟩ := mB_plain rfl h; sb_plain h2 (snd_E (.dct ks es) sc fn _ h1)
  | .of (.bin k a b), sc, fn, e, h => let ⟨h1, h2⟩ := mB_plain rfl h; sb_plain h2 (snd_E (.bin k a b) sc fn _ h1)
  | .of (.and a b), sc, fn, e, h => let ⟨h1, h2⟩ := mB_plain rfl h; sb_plain h2 (snd_E (.and a b) sc fn _ h1)
  | .of (.or a b), sc, fn, e, h => let ⟨h1, h2⟩ := mB_plain rfl h; sb_plain h2 (snd_E (.or a b) sc fn _ h1)
  | .of (.not a), sc, fn, e, h => let ⟨h1, h2⟩ := mB_plain rfl h; sb_plain h2 (snd_E (.not a) sc fn _ h1)
  | .of (.neg a), sc, fn, e, h => let ⟨h1, h2⟩ := mB_plain rfl h; sb_plain h2 (snd_E (.neg a) sc fn _ h1)
  | .of (.ite t a b), sc, fn, e, h => let ⟨h1, h2⟩ := mB_plain rfl h; sb_plain h2 (snd_E (.ite t a b) sc fn _ h1)
  | .of (.ix a i), sc, fn, e, h => let ⟨h1, h2⟩ := mB_plain rfl h; sb_plain h2 (snd_E (.ix a i) sc fn _ h1)
  | .of (.fld i k), sc, fn, e, h => let ⟨h1, h2⟩ := mB_plain rfl h; sb_plain h2 (snd_E (.fld i k) sc fn _ h1)
  | .of (.sl a lo hi), sc, fn, e, h => let ⟨h1, h2⟩ := mB_plain rfl h; sb_plain h2 (snd_E (.sl a lo hi) sc fn _ h1)
  | .of (.bi b es), sc, fn, e, h => let ⟨h1, h2⟩ := mB_plain rfl h; sb_plain h2 (snd_E (.bi b es) sc fn _ h1)
  | .of (.idx a y), sc, fn, e, h => let ⟨h1, h2⟩ := mB_plain rfl h; sb_plain h2 (snd_E (.idx a y) sc fn _ h1)
  | .of (.isi a T), sc, fn, e, h => let ⟨h1, h2⟩ := mB_plain rfl h; sb_plain h2 (snd_E (.isi a T) sc fn _ h1)
  | .of (.call f es), sc, fn, e, h => let ⟨h1, h2⟩ := mB_plain rfl h; sb_plain h2 (snd_E (.call f es) sc fn _ h1)
  | .of (.cio f i es), sc, fn, e, h => let ⟨h1, h2⟩ := mB_plain rfl h; sb_plain h2 (snd_E (.cio f i es) sc fn _ h1)
  | .of (.comp own t src cond elt), sc, fn, e, h => let ⟨h1, h2⟩ := mB_plain rfl h; sb_plain h2 (snd_E (.comp own t src cond elt) sc fn _ h1)
  | .of .kd0, sc, fn, e, h => let ⟨h1, h2⟩ := mB_plain rfl h; sb_plain h2 (snd_E .kd0 sc fn _ h1)
  | .of (.lenk a), sc, fn, e, h => let ⟨h1, h2⟩ := mB_plain rfl h; sb_plain h2 (snd_E (.lenk a) sc fn _ h1)
  | .of (.kcomp own t src cond key val), sc, fn, e, h => let ⟨h1, h2⟩ := mB_plain rfl h; sb_plain h2 (snd_E (.kcomp own t src cond key val) sc fn _ h1)
  | .of (.comp2 own t src own1 t1 src1 elt), sc, fn, e, h => let ⟨h1, h2⟩ := mB_plain rfl h; sb_plain h2 (snd_E (.comp2 own t src own1 t1 src1 elt) sc fn _ h1)
theorem snd_Ds : ∀ (as : CEs) (sc : Scope) (fn : Str → Bool) (l : List Expr), mEs N as sc fn l = true → SDs c N sc fn l as
  | .nil, sc, fn, l, h => by
    cases l with
    | nil => exact sds_nil
    | cons e l => simp [mEs_nil] at h
  | .cons a as, sc, fn, l, h => by
    cases l with
    | nil => simp [mEs_cons] at h
    | cons e l =>
      simp only [mEs_cons, Bool.and_eq_true, Bool.not_eq_true'] at h
      exact sds_cons h.1.1 (snd_E a sc fn _ h.1.2) (snd_Ds as sc fn _ h.2)
theorem snd_Ps : ∀ (as : CEs) (sc : Scope) (fn : Str → Bool) (l : List Expr), mEs N as sc fn l = true → SPs c N sc fn l as
  | .nil, sc, fn, l, h => by
    cases l with
    | nil => exact sps_nil
    | cons e l => simp [mEs_nil] at h
  | .cons a as, sc, fn, l, h => by
    cases l with
    | nil => simp [mEs_cons] at h
    | cons e l =>
      simp only [mEs_cons, Bool.and_eq_true, Bool.not_eq_true'] at h
      exact sps_cons h.1.1 (snd_E a sc fn _ h.1.2) (snd_Ps as sc fn _ h.2)
theorem snd_Fs : ∀ (as : CEs) (sc : Scope) (fn : Str → Bool) (l : List Expr), mEs N as sc fn l = true → SFs c N sc fn l as
  | .nil, sc, fn, l, h => by
    cases l with
    | nil => exact sfs_nil
    | cons e l => simp [mEs_nil] at h
  | .cons a as, sc, fn, l, h => by
    cases l with
    | nil => simp [mEs_cons] at h
    | cons e l =>
      simp only [mEs_cons, Bool.and_eq_true, Bool.not_eq_true'] at h
      exact sfs_cons (snd_E a sc fn _ h.1.2) (snd_Fs as sc fn _ h.2)
theorem snd_O : ∀ (a : CEo) (sc : Scope) (fn : Str → Bool) (l : Option Expr), mO N a sc fn l = true → SO_ c N sc fn l a
  | .none, sc, fn, l, h => by
    cases l with
    | none => exact so_none
    | some e => simp [mO_none] at h
  | .some a, sc, fn, l, h => by
    cases l with
    | none => simp [mO_some] at h
    | some e => exact so_some (snd_E a sc fn _ (by rw [mO_some] at h; exact h))
theorem snd_I : ∀ (a : CI) (sc : Scope) (fn : Str → Bool) (tg e : Expr), mI N a sc fn tg e = true → SI c N sc fn tg e a
  | .of a, sc, fn, tg, e, h => by
    rw [mI_of] at h
    exact si_of (snd_E a sc fn _ h)
  | .rng a, sc, fn, tg, e, h => by
    rw [mI_rng] at h
    split at h
    · simp only [Bool.and_eq_true, decide_eq_true_eq, Bool.not_eq_true'] at h
      obtain ⟨⟨⟨rfl, h2⟩, h3⟩, h4⟩ := h
      exact si_rng h2 h3 (snd_E a sc fn _ h4)
    · cases h
  | .rng2 a b, sc, fn, tg, e, h => by
    rw [mI_rng2] at h
    split at h
    · simp only [Bool.and_eq_true, decide_eq_true_eq, Bool.not_eq_true'] at h
      obtain ⟨⟨⟨⟨⟨rfl, h2⟩, h3⟩, h4⟩, h5⟩, h6⟩ := h
      exact si_rng2 h2 h3 h4 (snd_E a sc fn _ h5) (snd_E b sc fn _ h6)
    · cases h
  | .enum a, sc, fn, tg, e, h => by
    rw [mI_enum] at h
    split at h
    · simp only [Bool.and_eq_true, decide_eq_true_eq, Bool.not_eq_true'] at h
      obtain ⟨⟨⟨rfl, h2⟩, h3⟩, h4⟩ := h
      exact si_enum h2 h3 (snd_E a sc fn _ h4)
    · cases h
  | .zip a b, sc, fn, tg, e, h => by
    rw [mI_zip] at h
    split at h
    · simp only [Bool.and_eq_true, decide_eq_true_eq, Bool.not_eq_true'] at h
      obtain ⟨⟨⟨⟨⟨rfl, h2⟩, h3⟩, h4⟩, h5⟩, h6⟩ := h
      exact si_zip h2 h3 h4 (snd_E a sc fn _ h5) (snd_E b sc fn _ h6)
    · cases h
end
end
end NW
end
section
set_option linter.all false
set_option maxRecDepth 100000
set_option maxHeartbeats 2000000
/-! NWn: statements: matching, goals, cases -/
namespace NW
open PySem L2 PyProof.Rows
/-! ### matching -/
def swB (sc : Scope) (y : Str) (py : Pos) : Expr → Bool
  | .ListComp _ _ scope pos => sc.names.lookup y == some .local && py.line == pos.line && !(scope.names.any fun (n, k) => n == y && (k == .local || k == .cell))
  | _ => false
def isComp : Expr → Bool
  | .ListComp .. | .SetComp .. | .DictComp .. => true
  | _ => false
def isDC : Expr → Bool
  | .DictComp .. => true
  | _ => false
def isTupE : Expr → Bool
  | .Tuple .. => true
  | _ => false
/-- what PySem.swappedStores answers in a def's body -/
def swR (sc : Scope) (ts vs : List Expr) : Option (Option (List Str)) :=
  if !(ts.length == 2 || ts.length == 3) || vs.length != ts.length then some none
  else if vs.any (fun | .Starred .. => true | _ => false) then some none
  else
    let line := (ts.head?.map (·.pos.line)).getD 0
    let names := ts.filterMap fun
      | .Name id pos => if sc.names.lookup id == some .local && pos.line == line then some id else none
      | _ => none
    if names.length != ts.length || names.eraseDups.length != names.length then some none
    else if vs.all (foldedForSure 8) then some none
    else if vs.all (constantsAlone 8) then none
    else some (some names)
theorem sw_R {env : PySem.Env} (hk : env.scope.kind = .function) {ts vs : List Expr} {k1 k2 : Nat} {p1 p2 : Pos} {r : Option (List Str)} (h : swR env.scope ts vs = some r) : swappedStores [.Tuple ts k1 p1] (.Tuple vs k2 p2) env = pure r := by
  have hb : env.blockKind = .function := by unfold Env.blockKind; rw [hk]; rfl
  unfold swR at h
  unfold swappedStores
  simp only [hb]
  have e0 : (ScopeKind.function != ScopeKind.function) = false := rfl
  simp only [e0, Bool.or_false]
  split at h
  · rename_i h1
    cases h
    exact if_pos h1
  rename_i h1
  refine (if_neg h1).trans ?_
  split at h
  · rename_i h2
    cases h
    exact if_pos h2
  rename_i h2
  refine (if_neg h2).trans ?_
  simp only at h
  split at h
  · rename_i h3
    cases h
    exact if_pos h3
  rename_i h3
  refine (if_neg h3).trans ?_
  split at h
  · rename_i h4
    cases h
    exact if_pos h4
  rename_i h4
  refine (if_neg h4).trans ?_
  split at h
  · cases h
  rename_i h5
  cases h
  exact if_neg h5

theorem sw_B {env : PySem.Env} (hk : env.scope.kind = .function) {y : Str} {py : Pos} {v : Expr} {l : Nat} (hv : ∀ e gs s p, v ≠ .SetComp e gs s p) (hd : ∀ k e gs s p, v ≠ .DictComp k e gs s p) : swapsWith v (some (.Name y py)) l env = pure (swB env.scope y py v) := by
  have hb : env.blockKind = .function := by unfold Env.blockKind; rw [hk]; rfl
  cases v
  case ListComp e gs s p =>
    unfold swapsWith
    simp only [hb]
    rfl
  case SetComp e gs s p => exact absurd rfl (hv _ _ _ _)
  case DictComp k e gs s p => exact absurd rfl (hd _ _ _ _ _)
  all_goals rfl
theorem sw_sub {v o i : Expr} {p : Pos} {l : Nat} {env : PySem.Env} : swapsWith v (some (.Subscript o i p)) l env = pure false := by cases v <;> rfl
theorem sw_tup {v : Expr} {es : List Expr} {k : Nat} {p : Pos} {l : Nat} {env : PySem.Env} : swapsWithSole [.Tuple es k p] v l env = pure false := by cases v <;> rfl
theorem sw_none {v : Expr} {l : Nat} {env : PySem.Env} (h : isComp v = false) : swapsWith v none l env = pure false := by cases v <;> first | rfl | cases h
theorem ss_none {v : Expr} {es : List Expr} {k : Nat} {p : Pos} {env : PySem.Env} (h : isTupE v = false) : swappedStores [.Tuple es k p] v env = pure none := by cases v <;> first | rfl | cases h
theorem mE_set {N : List Str} {sc : Scope} {fn : Str → Bool} {a : CE} {v : Expr} (m : mE N a sc fn v = true) (hd : isDC v = false) : (∀ e gs s p, v ≠ .SetComp e gs s p) ∧ ∀ k e gs s p, v ≠ .DictComp k e gs s p := by
  constructor
  · rintro e gs s p rfl
    cases a
    case lit d => cases d <;> simp [mE_lit] at m
    all_goals simp [mE_var, mE_glob, mE_tup, mE_tups, mE_sset, mE_comp2, mE_kd0, mE_lenk, mE_kcomp, mE_lst, mE_dct, mE_bin, mE_cmp, mE_chain, mE_isN, mE_notN, mE_and, mE_or, mE_not, mE_neg, mE_ite, mE_ix, mE_fld, mE_sl, mE_bi, mE_isi, mE_idx, mE_call, mE_cio, mE_comp] at m
  · rintro k e gs s p rfl
    cases hd
/-- e.f, e the caught exception's name -/
def mFld (n f : Str) : Expr → Bool
  | .Attribute (.Name y _) g _ => decide (y = n) && decide (g = f)
  | _ => false
def mV (n f : Str) : HV → Expr → Bool
  | .fld, e => mFld n f e
  | .lstf, e => match e with
    | .List [x] _ => mFld n f x
    | _ => false
  | .tupf w, e => match e with
    | .Tuple [.Constant (.str u) _ _, x] _ _ => decide (u = w) && mFld n f x
    | _ => false
def mH (N : List Str) (sc : Scope) (fn : Str → Bool) (n f : Str) (hv : HV) : Option Nat → Stmt → Bool
  | none, s => match s with
    | .Return (some v) _ => mV n f hv v
    | _ => false
  | some j, s => match s with
    | .Assign [.Name z _] v _ => decide (N[j]? = some z) && decide (sc.names.lookup z = some .local) && mV n f hv v
    | _ => false
def nmOk (N : List Str) (sc : Scope) (i : Nat) (y : Str) : Bool := decide (N[i]? = some y) && visB sc y && nmB y
mutual
def mS (N : List Str) : CS → Scope → (Str → Bool) → Stmt → Bool
  | .asg t e, sc, fn, s => match s with
    | .Assign [tg] v _ => mT N sc fn t tg && mE N e sc fn v && (match t with
      | .name _ => !(isDC v)
      | .tup _ => !(isTupE v))
    | _ => false
  | .par l es, sc, fn, s => match s with
    | .Assign [.Tuple ts _ _] (.Tuple vs _ _) _ => mNames N sc fn l ts && mEs N es sc fn vs && decide (ts.length = vs.length) && decide (l.length ≤ 100) && (swR sc ts vs).isSome
    | _ => false
  | .aug i k e, sc, fn, s => match s with
    | .AugAssign (.Name y _) op v _ => decide (N[i]? = some y) && tgB sc fn y && mE N e sc fn v && (match k, op with
      | .add, .Add => true
      | .sub, .Sub => true
      | _, _ => false)
    | _ => false
  | .put i k e, sc, fn, s => match s with
    | .Assign [.Subscript (.Name y _) kx _] v _ => nmOk N sc i y && !(isSlice kx) && mE N k sc fn kx && mE N e sc fn v
    | _ => false
  | .putf i f k e, sc, fn, s => match s with
    | .Assign [.Subscript (.Subscript (.Name y _) (.Constant (.str g) _ _) _) kx _] v _ => nmOk N sc i y && decide (f = g) && !(isSlice kx) && mE N k sc fn kx && mE N e sc fn v
    | _ => false
  | .append i e, sc, fn, s => match s with
    | .Expr (.Call (.Attribute (.Name y _) m apos) [x] [] cpos) _ => nmOk N sc i y && decide (m = "append") && (apos.endLine == cpos.line) && !(isStar x) && mE N e sc fn x
    | _ => false
  | .extend i e, sc, fn, s => match s with
    | .Expr (.Call (.Attribute (.Name y _) m apos) [x] [] cpos) _ => nmOk N sc i y && decide (m = "extend") && (apos.endLine == cpos.line) && !(isStar x) && mE N e sc fn x
    | _ => false
  | .expr e, sc, fn, s => match s with
    | .Expr v _ => mE N e sc fn v && !(isComp v)
    | _ => false
  | .ret e, sc, fn, s => match s with
    | .Return (some v) _ => mE N e sc fn v
    | _ => false
  | .retN, _, _, s => match s with
    | .Return none _ => true
    | _ => false
  | .ite t a b, sc, fn, s => match s with
    | .If c x y _ => mB N t sc fn c && mSs N a sc fn x && mSs N b sc fn y
    | _ => false
  | .for_ t src body, sc, fn, s => match s with
    | .For tg it b [] _ => !(isSet it) && mI N src sc fn tg it && mT N sc fn t tg && mSs N body sc fn b
    | _ => false
  | .while_ t body, sc, fn, s => match s with
    | .While c b [] _ => mB N t sc fn c && mSs N body sc fn b
    | _ => false
  | .raise x a, sc, fn, s => match s with
    | .Raise (some (.Call (.Name y _) [e] [] _)) none _ => decide (y = x) && glB sc x && !(isStar e) && mE N a sc fn e
    | _ => false
  | .tryx body x i f hv k, sc, fn, s => match s with
    | .Try b [.ExceptHandler (some (.Name y _)) (some n) [h] _] [] [] _ => decide (y = x) && glB sc x && decide (N[i]? = some n) && decide (sc.names.lookup n = some .local) && nmB n && mSs N body sc fn b && mH N sc fn n f hv k h
    | _ => false
  | .never, _, _, _ => true
  | .pass, _, _, s => match s with
    | .Pass _ => true
    | _ => false
  | .brk, _, _, s => match s with
    | .Break _ => true
    | _ => false
  | .cnt, _, _, s => match s with
    | .Continue _ => true
    | _ => false
def mSs (N : List Str) : CSs → Scope → (Str → Bool) → List Stmt → Bool
  | .nil, _, _, l => match l with
    | [] => true
    | _ => false
  | .cons s r, sc, fn, l => match l with
    | x :: l => mS N s sc fn x && mSs N r sc fn l
    | _ => false
end
/-! ### goals -/
def Pin (pn : Nat) (σ σ' : L2.St) : Prop := ∀ j, j < pn → σ'[j]? = σ[j]?
def GS (c : Ct) (W : WX) (pn : Nat) (σ : L2.St) (H : Hp) (G : Addr → Prop) (fps : Fs) (D : Ends) : SO → Prop
  | .nx e => ∀ σ' H' G' fps', Aft c.K σ' H G fps e H' G' fps' [] → Pin pn σ σ' → D.nx σ' H'
  | .brk e => ∀ σ' H' G' fps', Aft c.K σ' H G fps e H' G' fps' [] → Pin pn σ σ' → D.bk σ' H'
  | .cnt e => ∀ σ' H' G' fps', Aft c.K σ' H G fps e H' G' fps' [] → Pin pn σ σ' → D.ct σ' H'
  | .ret o e => ∀ v σ' H' G' fps' fpt, Aft c.K σ' H G fps e H' G' fps' fpt → Pin pn σ σ' → Ow c.K H' G' o v fpt → D.rt v H'
  | .exc x e => ∀ cls d σ' H' G' fps', Aft c.K σ' H G fps e H' G' fps' [] → Pin pn σ σ' → c.xr x cls d H' → W cls d σ' H'
structure CtxS (c : Ct) (X : Cx) (W : WX) (N : List Str) (sc : Scope) (fn : Str → Bool) : Prop where
  ok : CtxOk c X W N sc fn
  po : PassesOwn (model X.prog X.w) X.A X.env X.xe
  kd : sc.kind = .function
  st : X.stack = X.env :: X.outer
  fr : X.env.frame = some X.env.locals
section
variable (c : Ct) (N : List Str) (pn : Nat)
def SS (sc : Scope) (fn : Str → Bool) (s : Stmt) (a : CS) : Prop := ∀ X W, CtxS c X W N sc fn → ∀ env σ H G fps out D, EnvR c.K env σ H G fps → evalS c.Γ pn a env = some out → GS c W pn σ H G fps D out → tS X s D σ H
def SSs (sc : Scope) (fn : Str → Bool) (l : List Stmt) (a : CSs) : Prop := ∀ X W, CtxS c X W N sc fn → ∀ env σ H G fps out D, EnvR c.K env σ H G fps → evalSs c.Γ pn a env = some out → GS c W pn σ H G fps D out → tSs X l D σ H
end
theorem sbnd_ways {α : Type} {x : Option (Out α)} {f : α → Env → Option SO} {out : SO} (h : sbnd x f = some out) : (∃ a e, x = some (.ok a e) ∧ f a e = some out) ∨ ∃ y e, x = some (.exc y e) ∧ out = .exc y e := by
  cases x with
  | none => cases h
  | some o =>
    cases o with
    | ok a e => exact .inl ⟨a, e, rfl, h⟩
    | exc y e => cases h; exact .inr ⟨y, e, rfl, rfl⟩
theorem Pin.refl {pn : Nat} {σ : L2.St} : Pin pn σ σ := fun _ _ => rfl
theorem Pin.trans {pn : Nat} {σ σ' σ2 : L2.St} (a : Pin pn σ σ') (b : Pin pn σ' σ2) : Pin pn σ σ2 := fun j hj => (b j hj).trans (a j hj)
theorem Pin.set {pn i : Nat} {σ : L2.St} {v : Option V} (h : pn ≤ i) : Pin pn σ (σ.set i v) := fun j hj => List.getElem?_set_ne (by omega)
section
variable {c : Ct} {N : List Str} {sc : Scope} {fn : Str → Bool} {pn : Nat}
/-- steps one behind another, the names stored to between -/
theorem Aft.nextS {K : PySem.W.Frag} {σ σ2 : L2.St} {H0 H1 H2 : Hp} {G0 G1 G2 : Addr → Prop} {fps0 fps1 fps2 : Fs} {env1 env2 : Env} {fpt1 fpt2 : List Addr} (a : Aft K σ H0 G0 fps0 env1 H1 G1 fps1 fpt1) (b : Aft K σ2 H1 G1 fps1 env2 H2 G2 fps2 fpt2) : Aft K σ2 H0 G0 fps0 env2 H2 G2 fps2 fpt2 :=
  ⟨b.E, a.S.trans b.S, fun c hc => by
    rcases b.new c hc with z | z
    · exact a.S.fnew c z
    · exact (a.S.none_of z).symm, b.off⟩
/-- a goal, seen from a later state -/
theorem GS.later {W : WX} {σ σ1 : L2.St} {H H1 : Hp} {G G1 : Addr → Prop} {fps fps1 : Fs} {D : Ends} {out : SO} {env1 : Env} {fpt : List Addr} (a : Aft c.K σ1 H G fps env1 H1 G1 fps1 fpt) (hp : Pin pn σ σ1) (h : GS c W pn σ H G fps D out) : GS c W pn σ1 H1 G1 fps1 D out := by
  cases out with
  | nx e => exact fun σ' H' G' fps' b q => h σ' H' G' fps' (a.nextS b) (hp.trans q)
  | brk e => exact fun σ' H' G' fps' b q => h σ' H' G' fps' (a.nextS b) (hp.trans q)
  | cnt e => exact fun σ' H' G' fps' b q => h σ' H' G' fps' (a.nextS b) (hp.trans q)
  | ret o e => exact fun v σ' H' G' fps' fpt b q r => h v σ' H' G' fps' fpt (a.nextS b) (hp.trans q) r
  | exc x e => exact fun cls d σ' H' G' fps' b q r => h cls d σ' H' G' fps' (a.nextS b) (hp.trans q) r
theorem ss_never {s : Stmt} : SS c N pn sc fn s .never := by
  intro X W ok env σ H G fps out D E he hq
  simp only [evalS_never] at he
  cases he
theorem ss_pass {p : Pos} : SS c N pn sc fn (.Pass p) .pass := by
  intro X W ok env σ H G fps out D E he hq
  simp only [evalS_pass] at he
  cases he
  exact tS_of ps_pass (hq σ H G fps (Aft.refl E) Pin.refl)
theorem ss_brk {p : Pos} : SS c N pn sc fn (.Break p) .brk := by
  intro X W ok env σ H G fps out D E he hq
  simp only [evalS_brk] at he
  cases he
  exact tS_of ps_break (hq σ H G fps (Aft.refl E) Pin.refl)
theorem ss_cnt {p : Pos} : SS c N pn sc fn (.Continue p) .cnt := by
  intro X W ok env σ H G fps out D E he hq
  simp only [evalS_cnt] at he
  cases he
  exact tS_of ps_continue (hq σ H G fps (Aft.refl E) Pin.refl)
theorem ss_retN {p : Pos} : SS c N pn sc fn (.Return none p) .retN := by
  intro X W ok env σ H G fps out D E he hq
  simp only [evalS_retN] at he
  cases he
  exact tS_of ps_retN (hq .non σ H G fps [] (Aft.refl E) Pin.refl ⟨rfl, .non⟩)
theorem ss_ret {a : CE} {e : Expr} {p : Pos} (h : SE c N sc fn e a) : SS c N pn sc fn (.Return (some e) p) (.ret a) := by
  intro X W ok env σ H G fps out D E he hq
  simp only [evalS_ret] at he
  refine tS_of (ps_ret (peS X e)) ?_
  rcases sbnd_ways he with ⟨p1, env1, e1, he⟩ | ⟨y, env1, e1, rfl⟩
  · refine h X W ok.ok env σ H G fps _ _ E e1 fun v H1 G1 fps1 fpt1 a1 r1 s1 => ?_
    rcases sbnd_ways he with ⟨o, env2, e2, he⟩ | ⟨y, env2, e2, rfl⟩
    · cases he
      obtain ⟨G2, fps2, fpt2, a2, r2⟩ := mv_ok a1 r1 e2
      exact hq v σ H1 G2 fps2 fpt2 a2 Pin.refl r2
    · exact (mv_not e2).elim
  · exact h X W ok.ok env σ H G fps _ _ E e1 fun cls d H1 G1 fps1 a1 x1 => hq cls d σ H1 G1 fps1 a1 Pin.refl x1
theorem ss_expr {a : CE} {e : Expr} {p : Pos} (hc : isComp e = false) (h : SE c N sc fn e a) : SS c N pn sc fn (.Expr e p) (.expr a) := by
  intro X W ok env σ H G fps out D E he hq
  simp only [evalS_expr] at he
  refine tS_of (ps_expr (peS X e) (sw_none hc)) ?_
  rcases sbnd_ways he with ⟨p1, env1, e1, he⟩ | ⟨y, env1, e1, rfl⟩
  · cases he
    exact h X W ok.ok env σ H G fps _ _ E e1 fun v H1 G1 fps1 fpt1 a1 r1 s1 => hq σ H1 G1 fps1 a1.drop Pin.refl
  · exact h X W ok.ok env σ H G fps _ _ E e1 fun cls d H1 G1 fps1 a1 x1 => hq cls d σ H1 G1 fps1 a1 Pin.refl x1
theorem ss_ite {t : CB} {a b : CSs} {x : Expr} {y z : List Stmt} {p : Pos} (h0 : SB c N sc fn x t) (h1 : SSs c N pn sc fn y a) (h2 : SSs c N pn sc fn z b) : SS c N pn sc fn (.If x y z p) (.ite t a b) := by
  intro X W ok env σ H G fps out D E he hq
  simp only [evalS_ite] at he
  refine tS_of (ps_if (ptS X x) (pssS X y) (pssS X z)) ?_
  rcases sbnd_ways he with ⟨b1, env1, e1, he⟩ | ⟨y, env1, e1, rfl⟩
  · refine h0 X W ok.ok env σ H G fps _ _ E e1 fun H1 G1 fps1 a1 s1 => ?_
    cases b1 with
    | true =>
      rw [if_pos rfl] at he ⊢
      exact h1 X W ok env1 σ H1 G1 fps1 out D a1.E he (hq.later a1 Pin.refl)
    | false =>
      rw [if_neg Bool.false_ne_true] at he ⊢
      exact h2 X W ok env1 σ H1 G1 fps1 out D a1.E he (hq.later a1 Pin.refl)
  · exact h0 X W ok.ok env σ H G fps _ _ E e1 fun cls d H1 G1 fps1 a1 x1 => hq cls d σ H1 G1 fps1 a1 Pin.refl x1
theorem sss_nil : SSs c N pn sc fn [] .nil := by
  intro X W ok env σ H G fps out D E he hq
  simp only [evalSs_nil] at he
  cases he
  exact tSs_of pss_nil (hq σ H G fps (Aft.refl E) Pin.refl)
theorem sss_cons {s : Stmt} {l : List Stmt} {a : CS} {as : CSs} (h1 : SS c N pn sc fn s a) (h2 : SSs c N pn sc fn l as) : SSs c N pn sc fn (s :: l) (.cons a as) := by
  intro X W ok env σ H G fps out D E he hq
  simp only [evalSs_cons] at he
  refine tSs_of (pss_cons (psS X s) (pssS X l)) ?_
  cases q : evalS c.Γ pn a env with
  | none => rw [q] at he; cases he
  | some o =>
    rw [q] at he
    refine h1 X W ok env σ H G fps o _ E q ?_
    cases o with
    | nx e1 => exact fun σ1 H1 G1 fps1 a1 p1 => h2 X W ok e1 σ1 H1 G1 fps1 out D a1.E he (hq.later a1 p1)
    | ret o e1 => cases he; exact hq
    | brk e1 => cases he; exact hq
    | cnt e1 => cases he; exact hq
    | exc x e1 => cases he; exact hq
end
end NW
end
section
set_option linter.all false
set_option maxRecDepth 100000
set_option maxHeartbeats 2000000
/-! NWo: statements that store; loops -/
namespace NW
open PySem L2 PyProof.Rows
section
variable {c : Ct} {N : List Str} {sc : Scope} {fn : Str → Bool} {pn : Nat}
theorem nm_pe {X : Cx} {W : WX} (ok : CtxOk c X W N sc fn) {i : Nat} {y : Str} {p : Pos} {t : CT} (h : mT N sc fn (.name i) (.Name y p) = true) : X.N.Nodup ∧ X.N[i]? = some y ∧ L2.Loc X.env.scope y ∧ (X.fn y = true ∨ X.env.scope.names.lookup y = some .local) := by
  simp only [mT, Bool.and_eq_true, decide_eq_true_eq] at h
  obtain ⟨h1, h2⟩ := tgB_ok h.2
  exact ⟨by rw [ok.eN]; exact ok.nd, by rw [ok.eN]; exact h.1, by rw [ok.eS]; exact h1, by rw [ok.eF, ok.eS]; exact h2⟩
/-- the reading of name = e from that of e -/
theorem asg_name {te : TE} {i : Nat} {a : CE} {D : Ends} {env : Env} {σ : L2.St} {H : Hp} {G : Addr → Prop} {fps : Fs} {out : SO} {W : WX}
    (hte : ∀ out1 Q, evalE c.Γ a env = some out1 → GE c W σ H G fps (noeff a) Q out1 → te σ H Q) (he : evalS c.Γ pn (.asg (.name i) a) env = some out) (hq : GS c W pn σ H G fps D out) : tAsg te (gName i) D σ H := by
  simp only [evalS_asg] at he
  split at he
  · rename_i hpn
    rcases sbnd_ways he with ⟨p1, env1, e1, he⟩ | ⟨y, env1, e1, rfl⟩
    · refine hte _ _ e1 fun v H1 G1 fps1 fpt1 a1 r1 s1 => ?_
      rcases sbnd_ways he with ⟨o, env2, e2, he⟩ | ⟨y, env2, e2, rfl⟩
      · cases he
        obtain ⟨G2, fps2, fpt2, a2, r2⟩ := share_ok a1 r1 e2
        obtain ⟨fps3, E3, S3⟩ := a2.put (i := i) r2
        exact hq _ H1 G2 fps3 ⟨E3, S3, (fun b hb => nomatch hb), (fun b hb => nomatch hb)⟩ (Pin.set hpn)
      · exact (share_not e2).elim
    · exact hte _ _ e1 fun cls d H1 G1 fps1 a1 x1 => hq cls d σ H1 G1 fps1 a1 Pin.refl x1
  · cases he
theorem swB_comp {y : Str} {py : Pos} {v : Expr} (h : swB sc y py v = true) : ∃ e gs s p, v = .ListComp e gs s p := by
  cases v <;> first | exact ⟨_, _, _, _, rfl⟩ | cases h
theorem ss_name {i : Nat} {a : CE} {y : Str} {py p : Pos} {v : Expr} (ht : mT N sc fn (.name i) (.Name y py) = true) (hv : mE N a sc fn v = true) (hd : isDC v = false) : SS c N pn sc fn (.Assign [.Name y py] v p) (.asg (.name i) a) := by
  intro X W ok env σ H G fps out D E he hq
  obtain ⟨n1, n2, n3, n4⟩ := nm_pe (t := .name i) ok.ok ht
  have hk : X.env.scope.kind = .function := by rw [ok.ok.eS]; exact ok.kd
  obtain ⟨m1, m2⟩ := mE_set hv hd
  have hsw := sw_B (l := p.line) (y := y) (py := py) hk m1 m2
  cases hb : swB X.env.scope y py v with
  | false =>
    rw [hb] at hsw
    exact tS_of (ps_set n1 n2 n3 (peS X v) hsw n4) (asg_name (fun out1 Q e1 q1 => snd_E a sc fn v hv X W ok.ok env σ H G fps out1 Q E e1 q1) he hq)
  | true =>
    rw [hb] at hsw
    obtain ⟨el0, gs, scope0, pos0, rfl⟩ := swB_comp hb
    have hloc : X.env.scope.names.lookup y = some .local := by
      simp only [swB, Bool.and_eq_true, beq_iff_eq] at hb
      exact hb.1.1
    -- the core text is a comprehension
    cases a
    case comp own t src cond elt =>
      have h := hv
      rw [mE_comp] at h
      split at h
      · rename_i z1 el tg it ifs scope pos hz
        injection hz with hz1 hz2 hz3 hz4
        subst hz1 hz2 hz3 hz4
        obtain ⟨h, h6⟩ := one3 (α := Nat) h
        simp only [Bool.and_eq_true, Bool.not_eq_true'] at h
        obtain ⟨⟨⟨⟨h1, h2⟩, h3⟩, h4⟩, h5⟩ := h
        have hcnd : SBs c N (relS scope0 sc) (fnB scope0) ifs cond := by
          split at h6
          · split at h6
            · exact sbs_nil
            · cases h6
          · exact sbs_one (snd_B cond _ _ _ h6)
          · cases h6
        have hbk : BlkOk X.N X.env.scope scope0 (ownP N own) := by
          rw [ok.ok.eN, ok.ok.eS]; exact blkOk_by h1
        have := ps_setLc (X := X) (pos := pos0) (spos := p) (py := py) (wi := tI X tg it) (g := gT X.K t) (tt := cT X scope0 ifs) (te := cE X scope0 el0) (elt := el0) ok.ok.calm n1 n2 hloc hsw (piS X tg it) hbk
          (fun s H C cl fp => pg_T (ok.ok.blk scope0 s H C cl fp) h4) (fun s H C cl fp => ⟨fun pins s' σ H' Q I h => h s H C cl fp pins s' I⟩) (fun s H C cl fp => ⟨fun pins s' σ H' Q I h => h s H C cl fp pins s' I⟩) (fun x => notSet_ok h2 X.env x)
        rw [ownP_snd] at this
        exact tS_of this (asg_name (fun out1 Q e1 q1 => comp_ok ok.ok (snd_I src sc fn _ _ h3) (snd_E elt _ _ _ h5) hcnd E e1 q1) he hq)
      · cases h
    case comp2 own t src own1 t1 src1 elt =>
      have h := hv
      rw [mE_comp2] at h
      split at h
      · rename_i z1 el tg it tg1 it1 scope pos hz
        injection hz with hz1 hz2 hz3 hz4
        subst hz1 hz2 hz3 hz4
        simp only [Bool.and_eq_true, Bool.not_eq_true'] at h
        obtain ⟨⟨⟨⟨⟨⟨⟨⟨h1, h2⟩, h3⟩, h4⟩, h5⟩, h6⟩, h7⟩, h8⟩, h9⟩ := h
        have hbk : BlkOk X.N X.env.scope scope0 (ownP N own) := by
          rw [ok.ok.eN, ok.ok.eS]; exact blkOk_by h1
        have hsub : ∀ i ∈ own1, i ∈ (ownP N own).map (·.2) := by
          rw [ownP_snd]
          simpa [List.all_eq_true] using h2
        have := ps_setLc2 (X := X) (pos := pos0) (spos := p) (py := py) (wi := tI X tg it) (g := gT X.K t) (tt := cT X scope0 []) (wi1 := cI X scope0 tg1 it1) (g1 := gT X.K t1) (tt1 := cT X scope0 []) (te := cE X scope0 el0) (elt := el0) (vs1 := own1) ok.ok.calm n1 n2 hloc hsw (piS X tg it) hbk hsub
          (fun s H C cl fp => pg_T (ok.ok.blk scope0 s H C cl fp) h6) (fun s H C cl fp => ⟨fun pins s' σ H' Q I h => h s H C cl fp pins s' I⟩) (fun s H C cl fp => ⟨fun pins s' σ H' Q I h => h s H C cl fp pins s' I⟩)
          (fun s H C cl fp => pg_T (ok.ok.blk scope0 s H C cl fp) h8) (fun s H C cl fp => ⟨fun pins s' σ H' Q I h => h s H C cl fp pins s' I⟩) (fun s H C cl fp => ⟨fun pins s' σ H' Q I h => h s H C cl fp pins s' I⟩) (fun x => notSet_ok h3 X.env x) (fun env x => notSet_ok h4 env x)
        rw [ownP_snd] at this
        exact tS_of this (asg_name (fun out1 Q e1 q1 => comp2_ok ok.ok (snd_I src sc fn _ _ h5) (snd_I src1 _ _ _ _ h7) (snd_E elt _ _ _ h9) E e1 q1) he hq)
      · cases h
    case lit d => exfalso; cases d <;> simp [mE_lit] at hv
    all_goals (exfalso; simp [mE_var, mE_glob, mE_tup, mE_tups, mE_sset, mE_kd0, mE_lenk, mE_kcomp, mE_lst, mE_dct, mE_bin, mE_cmp, mE_chain, mE_isN, mE_notN, mE_and, mE_or, mE_not, mE_neg, mE_ite, mE_ix, mE_fld, mE_sl, mE_bi, mE_isi, mE_idx, mE_call, mE_cio] at hv)
theorem gT_pin {t : CT} {σ σ2 : L2.St} (ht : targets pn t = true) (h : ∀ j, j ∉ t.slots → σ2[j]? = σ[j]?) : Pin pn σ σ2 := fun j hj => h j fun hm => by
  cases t with
  | name i =>
    have : j = i := by simpa [CT.slots] using hm
    simp only [targets, decide_eq_true_eq] at ht
    omega
  | tup l =>
    unfold targets at ht
    rw [List.all_eq_true] at ht
    have := ht j hm
    simp only [decide_eq_true_eq] at this
    omega
theorem ss_tup {l : List Nat} {a : CE} {es : List Expr} {kk : Nat} {tp p : Pos} {v : Expr} (ht : mT N sc fn (.tup l) (.Tuple es kk tp) = true) (hv : isTupE v = false) (h : SE c N sc fn v a) : SS c N pn sc fn (.Assign [.Tuple es kk tp] v p) (.asg (.tup l) a) := by
  intro X W ok env σ H G fps out D E he hq
  simp only [evalS_asg_2] at he
  split at he
  · rename_i hpn
    refine tS_of (ps_asg (peS X v) (pg_T ok.ok ht) sw_tup (ss_none hv) rfl) ?_
    rcases sbnd_ways he with ⟨p1, env1, e1, he⟩ | ⟨y, env1, e1, rfl⟩
    · refine h X W ok.ok env σ H G fps _ _ E e1 fun v H1 G1 fps1 fpt1 a1 r1 s1 => ?_
      rcases sbnd_ways he with ⟨d, env2, e2, he⟩ | ⟨y, env2, e2, rfl⟩
      · obtain ⟨G2, fps2, a2, r2⟩ := frz_ok a1 r1 e2
        split at he
        · rename_i env3 e3
          cases he
          rw [ok.ok.eK]
          refine gT_ok a2.E r2 e3 fun σ3 fps3 E3 f3 h3 l3 => ?_
          exact hq σ3 H1 G2 fps3 ⟨E3, ⟨a2.S.keep, a2.S.tups, a2.S.frzs, a2.S.gsub, a2.S.gnew, fun b hb => a2.S.fnew b (f3 b hb)⟩, (fun b hb => nomatch hb), (fun b hb => nomatch hb)⟩ (gT_pin (t := .tup l) hpn h3)
        · cases he
      · exact (frz_not e2).elim
    · exact h X W ok.ok env σ H G fps _ _ E e1 fun cls d H1 G1 fps1 a1 x1 => hq cls d σ H1 G1 fps1 a1 Pin.refl x1
  · cases he
/-! ### op= -/
theorem ss_aug {i : Nat} {k : BinK} {a : CE} {y : Str} {py p : Pos} {op : Operator} {v : Expr} (hk : k = .add ∧ op = .Add ∨ k = .sub ∧ op = .Sub) (ht : mT N sc fn (.name i) (.Name y py) = true) (h : SE c N sc fn v a) : SS c N pn sc fn (.AugAssign (.Name y py) op v p) (.aug i k a) := by
  intro X W ok env σ H G fps out D E he hq
  simp only [evalS_aug] at he
  obtain ⟨n1, n2, n3, n4⟩ := nm_pe (t := .name i) ok.ok ht
  split at he
  · rename_i hpn
    split at he
    · rename_i x hx
      obtain ⟨u, hu, ru⟩ := E.rep i _ hx
      have main : ∀ {f : Int → Int → Int}, (∀ y d, augO k x y = some d → ∃ a b, x = .int a ∧ y = .int b ∧ d = .int (f a b)) → tAug i (tE X v) (ipI f) D σ H := fun {f} hf => by
        refine ⟨u, hu, ?_⟩
        rcases sbnd_ways he with ⟨p1, env1, e1, he⟩ | ⟨z, env1, e1, rfl⟩
        · refine h X W ok.ok env σ H G fps _ _ E e1 fun w H1 G1 fps1 fpt1 a1 r1 s1 => ?_
          split at he
          · rename_i d hd
            cases he
            cases hb : flatP p1 env1 with
            | none => rw [hb] at hd; cases hd
            | some y =>
              rw [hb] at hd
              obtain ⟨ai, bi, rfl, rfl, rfl⟩ := hf y d hd
              have z1 := rint ru.2
              have z2 := rint (pr_flat a1.E r1 hb)
              subst z1 z2
              refine ⟨ai, bi, rfl, rfl, ?_⟩
              obtain ⟨fps3, E3, S3⟩ := a1.drop.put (i := i) (o := .fz (.int (f ai bi))) (v := .int (f ai bi)) ⟨rfl, .int _⟩
              exact hq _ H1 G1 fps3 ⟨E3, S3, (fun b hb => nomatch hb), (fun b hb => nomatch hb)⟩ (Pin.set hpn)
          · cases he
        · exact h X W ok.ok env σ H G fps _ _ E e1 fun cls d H1 G1 fps1 a1 x1 => hq cls d σ H1 G1 fps1 a1 Pin.refl x1
      rcases hk with ⟨rfl, rfl⟩ | ⟨rfl, rfl⟩
      · refine tS_of (ps_aug n1 n2 n3 (peS X v) ip_add n4) (main fun y d e => ?_)
        cases x <;> cases y <;> cases e
        exact ⟨_, _, rfl, rfl, rfl⟩
      · refine tS_of (ps_aug n1 n2 n3 (peS X v) ip_sub n4) (main fun y d e => ?_)
        cases x <;> cases y <;> cases e
        exact ⟨_, _, rfl, rfl, rfl⟩
    · cases he
  · cases he
/-! ### a place of a name's thing is written -/
theorem Aft.write {K : PySem.W.Frag} {σ : L2.St} {H0 H H' : Hp} {G0 G : Addr → Prop} {fps0 fps : Fs} {env : Env} {fpt fp' : List Addr} {i : Nat} {o o' : O} {v : V} {a : Addr} (A : Aft K σ H0 G0 fps0 env H G fps fpt) (hs : slot env i = some o) (hv : σ[i]? = some (some v)) (ha : a ∈ fps i)
    (st : Step H G (· = a) H' G (· = a)) (g : GHeld H' G) (r : Ow K H' G o' v fp') (hfp : ∀ b ∈ fp', b ∈ fps i ∨ b ∈ fpt) : Aft K σ H0 G0 fps0 (env.set i (some o')) H' G (updF fps i fp') [] := by
  have hi := slot_lt hs
  have dG : ∀ x, G x → ¬ x = a := fun x g e => by subst e; exact A.E.gf x g ⟨i, ha⟩
  have a0 : FF fps0 a ∨ H0 a = none := A.S.fnew a ⟨i, ha⟩
  refine ⟨⟨g, by rw [List.length_set]; exact A.E.len, fun j o2 hj => ?_, fun j hj => ?_, fun j k b hb hb' => ?_⟩, ⟨fun b u e nf => ?_, fun b xs e => st.tups b xs (A.S.tups b xs e), fun b o u e => st.frzs b o u (A.S.frzs b o u e), A.S.gsub, A.S.gnew, fun b ⟨j, hj⟩ => ?_⟩, (fun b hb => nomatch hb), (fun b hb => nomatch hb)⟩
  · rw [slot_set hi] at hj
    by_cases e : j = i
    · subst e
      rw [if_pos rfl] at hj
      cases hj
      exact ⟨v, hv, by rw [updF_same]; exact r⟩
    · rw [if_neg e] at hj
      obtain ⟨w, hw, q⟩ := A.E.rep j o2 hj
      rw [updF_ne e]
      exact ⟨w, hw, q.step st dG fun b hb z => by subst z; exact e (A.E.dis j i b hb ha)⟩
  · rw [slot_set hi] at hj
    by_cases e : j = i
    · rw [if_pos e] at hj; cases hj
    · rw [if_neg e] at hj
      rw [updF_ne e]; exact A.E.emp j hj
  · unfold updF at hb hb'
    split at hb
    · rename_i e
      split at hb'
      · rename_i e'; rw [e, e']
      · rename_i e'
        rcases hfp b hb with z | z
        · exact (e' (A.E.dis k i b hb' z)).elim
        · exact (A.off b z ⟨k, hb'⟩).elim
    · rename_i e
      split at hb'
      · rcases hfp b hb' with z | z
        · exact (e (A.E.dis j i b hb z)).elim
        · exact (A.off b z ⟨j, hb⟩).elim
      · exact A.E.dis j k b hb hb'
  · refine st.keep b u (A.S.keep b u e nf) fun z => ?_
    subst z
    rcases a0 with z | z
    · exact nf z
    · rw [e] at z; cases z
  · unfold updF at hj
    split at hj
    · rcases hfp b hj with z | z
      · exact A.S.fnew b ⟨i, z⟩
      · exact A.new b z
    · exact A.S.fnew b ⟨j, hj⟩
/-- a field stored -/
theorem OwFs.putF {K : PySem.W.Frag} {H : Hp} {G : Addr → Prop} {k : Key} {f : Fld} {v : V} {fpf : List Addr} (hf : OwF K H G f v fpf) : ∀ {kvs : List (Key × Fld)} {rv : List (Key × V)} {fp : List Addr}, OwFs K H G kvs rv fp → (∀ b ∈ fpf, b ∉ fp) → (kvs.map (·.1)).Nodup →
    ∃ fp', OwFs K H G (NW.putF kvs k f) (putK rv k v) fp' ∧ ∀ b ∈ fp', b ∈ fp ∨ b ∈ fpf := by
  have neg : ∀ {kvs : List (Key × Fld)} {rv : List (Key × V)} {fp : List Addr}, OwFs K H G kvs rv fp → k ∉ kvs.map (·.1) → kvs.map (fun kv => if kv.1 = k then (kv.1, f) else kv) = kvs ∧ rv.map (fun kv => if kv.1 = k then (kv.1, v) else kv) = rv ∧ kvs.any (fun kv => decide (kv.1 = k)) = false ∧ rv.any (fun kv => decide (kv.1 = k)) = false := by
    intro kvs
    induction kvs with
    | nil =>
      intro rv fp h hn
      cases rv with
      | nil => exact ⟨rfl, rfl, rfl, rfl⟩
      | cons _ _ => exact h.elim
    | cons kf r ih =>
      intro rv fp h hn
      obtain ⟨k0, f0⟩ := kf
      cases rv with
      | nil => exact h.elim
      | cons kv rv =>
        obtain ⟨k', v'⟩ := kv
        obtain ⟨rfl, fp1, fp2, _, _, _, h2⟩ := h
        rw [List.map_cons, List.mem_cons, not_or] at hn
        obtain ⟨i1, i2, i3, i4⟩ := ih h2 hn.2
        have hk : k0 ≠ k := Ne.symm hn.1
        refine ⟨?_, ?_, ?_, ?_⟩
        · rw [List.map_cons, if_neg hk, i1]
        · rw [List.map_cons, if_neg hk, i2]
        · rw [List.any_cons, i3]; simp [hk]
        · rw [List.any_cons, i4]; simp [hk]
  intro kvs
  induction kvs with
  | nil =>
    intro rv fp h dj hn
    cases rv with
    | nil =>
      have : fp = [] := h
      subst this
      exact ⟨fpf, ⟨rfl, fpf, [], (List.append_nil _).symm, (fun b hb hb' => nomatch hb'), hf, rfl⟩, fun b hb => .inr hb⟩
    | cons _ _ => exact h.elim
  | cons kf r ih =>
    intro rv fp h dj hn
    obtain ⟨k0, f0⟩ := kf
    cases rv with
    | nil => exact h.elim
    | cons kv rv =>
      obtain ⟨k', v'⟩ := kv
      obtain ⟨rfl, fp1, fp2, rfl, dj2, h1, h2⟩ := h
      rw [List.map_cons, List.nodup_cons] at hn
      by_cases hk : k0 = k
      · subst hk
        obtain ⟨i1, i2, i3, i4⟩ := neg h2 hn.1
        refine ⟨fpf ++ fp2, ?_, fun b hb => ?_⟩
        · have e1 : NW.putF ((k0, f0) :: r) k0 f = (k0, f) :: r := by
            unfold NW.putF
            rw [if_pos (by simp), List.map_cons, if_pos rfl, i1]
          have e2 : putK ((k0, v') :: rv) k0 v = (k0, v) :: rv := by
            unfold putK
            rw [if_pos (by simp), List.map_cons, if_pos rfl, i2]
          rw [e1, e2]
          exact ⟨rfl, fpf, fp2, rfl, fun b hb hb' => dj b hb (List.mem_append_right _ hb'), hf, h2⟩
        · rcases List.mem_append.mp hb with z | z
          · exact .inr z
          · exact .inl (List.mem_append_right _ z)
      · obtain ⟨fp', q1, q2⟩ := ih h2 (fun b hb hb' => dj b hb (List.mem_append_right _ hb')) hn.2
        have e1 : NW.putF ((k0, f0) :: r) k f = (k0, f0) :: NW.putF r k f := by
          unfold NW.putF
          by_cases ha : (r.any fun kv => decide (kv.1 = k)) = true
          · rw [if_pos ha, if_pos (by rw [List.any_cons, ha]; simp), List.map_cons, if_neg hk]
          · rw [if_neg ha, if_neg (by rw [List.any_cons]; simpa [hk] using ha)]; rfl
        have e2 : putK ((k0, v') :: rv) k v = (k0, v') :: putK rv k v := by
          unfold putK
          by_cases ha : (rv.any fun kv => decide (kv.1 = k)) = true
          · rw [if_pos ha, if_pos (by rw [List.any_cons, ha]; simp), List.map_cons, if_neg hk]
          · rw [if_neg ha, if_neg (by rw [List.any_cons]; simpa [hk] using ha)]; rfl
        rw [e1, e2]
        refine ⟨fp1 ++ fp', ⟨rfl, fp1, fp', rfl, fun b hb hb' => ?_, h1, q1⟩, fun b hb => ?_⟩
        · rcases q2 b hb' with z | z
          · exact dj2 b hb z
          · exact dj b z (List.mem_append_left _ hb)
        · rcases List.mem_append.mp hb with z | z
          · exact .inl (List.mem_append_left _ z)
          · rcases q2 b z with y | y
            · exact .inl (List.mem_append_right _ y)
            · exact .inr y
end
end NW
end
section
set_option linter.all false
set_option maxRecDepth 100000
set_option maxHeartbeats 2000000
/-! NWp: places written, parallel stores, loops -/
namespace NW
open PySem L2 PyProof.Rows
section
variable {c : Ct} {N : List Str} {sc : Scope} {fn : Str → Bool} {pn : Nat}
theorem setAny {X : Cx} : PSet X (fun o i v H Q => ∃ r, PSet X r ∧ r o i v H Q) := fun pins s σ H o i v ov iv u Q I ro ri rv ⟨r, hr, q⟩ => hr pins s σ H o i v ov iv u Q I ro ri rv q
theorem setAtI_ok {ds ds' : List D} {j : Int} {d : D} (h : setAtI ds j d = some ds') : ∃ n, ixN ds.length j = some n ∧ ds' = ds.set n d := by
  unfold setAtI at h
  cases q : ixN ds.length j with
  | none => rw [q] at h; cases h
  | some n => rw [q] at h; cases h; exact ⟨n, rfl, rfl⟩
theorem keyOf_ok {K : PySem.W.Frag} {H : Hp} {G : Addr → Prop} {v : V} {q : D} {k : Key} (r : RpS K H G v q) (h : keyOf q = some k) : v = kV k := by
  cases q <;> cases h
  · have := rint r; subst this; rfl
  · have := rstr r; subst this; rfl
theorem OwFs.len {K : PySem.W.Frag} {H : Hp} {G : Addr → Prop} : ∀ {kvs : List (Key × Fld)} {rv : List (Key × V)} {fp : List Addr}, OwFs K H G kvs rv fp → rv.length = kvs.length
  | [], [], _, _ => rfl
  | (k, f) :: r, (k', v) :: rv, fp, h => by
    obtain ⟨_, _, _, _, _, _, h2⟩ := h
    rw [List.length_cons, List.length_cons, OwFs.len h2]
  | [], _ :: _, _, h => h.elim
  | _ :: _, [], _, h => h.elim
theorem putO_ok {X : Cx} (hu : X.A.units + 64 < cLine) {K : PySem.W.Frag} (hK : X.K = K) {H : Hp} {G : Addr → Prop} {q : D} {x x' o : O} {xv yv v : V} {fpx fpt : List Addr} {Q : Hp → Prop} (rx : Ow K H G x xv fpx) (ry : RpS K H G yv q) (ro : Ow K H G o v fpt) (dj : ∀ b ∈ fpt, b ∉ fpx) (gh : GHeld H G) (e : putO q x o = some x')
    (hQ : ∀ H' fp' a, a ∈ fpx → Step H G (· = a) H' G (· = a) → GHeld H' G → Ow K H' G x' xv fp' → (∀ b ∈ fp', b ∈ fpx ∨ b ∈ fpt) → Q H') : ∃ r, PSet X r ∧ r xv yv v H Q := by
  unfold putO at e
  split at e
  · rename_i ds
    split at e
    · rename_i j d
      cases hs : setAtI ds j d with
      | none => rw [hs] at e; cases e
      | some ds' =>
        rw [hs] at e
        cases e
        obtain ⟨n, hn, rfl⟩ := setAtI_ok hs
        obtain ⟨a, xs, rfl, rfl, ng, hl, hr⟩ := rx
        have := rint ry
        subst this
        refine ⟨_, set_list, a, xs, j, n, rfl, rfl, hl, by rw [dpAll_length hr]; exact hn, ?_⟩
        have st : Step H G (· = a) (upd H a (.lst (xs.set n v))) G (· = a) := step_at ⟨xs, .inl hl⟩
        have dG : ∀ b, G b → ¬ b = a := fun b g z => by subst z; exact ng g
        exact hQ _ [a] a (by simp) st (gheld_upd gh) ⟨a, _, rfl, rfl, ng, upd_same, dpAll_set (dp_mono (st.sub dG) _ _ ro.2) n (dpAll_mono (st.sub dG) _ _ hr)⟩ fun b hb => .inl hb
    · cases e
  · rename_i kvs
    split at e
    · rename_i k hk
      split at e
      · rename_i hc
        simp only [Bool.and_eq_true, decide_eq_true_eq] at hc
        obtain ⟨hlen, hnd⟩ := hc
        have hnd := of_decide_eq_true hnd
        obtain ⟨a, rv, fpr, rfl, rfl, na, ng, hl, hr⟩ := rx
        have := keyOf_ok ry hk
        subst this
        have dG : ∀ b, G b → ¬ b = a := fun b g z => by subst z; exact ng g
        have main : ∀ f, OwF K H G f v fpt → Q (upd H a (.dK (putK rv k v))) ∨ True → (∀ H' fp', Step H G (· = a) H' G (· = a) → GHeld H' G → Ow K H' G (.dct (NW.putF kvs k f)) (.ref a) fp' → (∀ b ∈ fp', b ∈ a :: fpr ∨ b ∈ fpt) → Q H') → Q (upd H a (.dK (putK rv k v))) := fun f hf _ hQ => by
          have st : Step H G (· = a) (upd H a (.dK (putK rv k v))) G (· = a) := step_at ⟨[], .inr ⟨rv, hl⟩⟩
          have hf' : OwF K (upd H a (.dK (putK rv k v))) G f v fpt := hf.step st dG fun b hb z => by subst z; exact dj b hb List.mem_cons_self
          have hr' : OwFs K (upd H a (.dK (putK rv k v))) G kvs rv fpr := hr.step st dG fun b hb z => by subst z; exact na hb
          obtain ⟨fp', q1, q2⟩ := hr'.putF hf' (fun b hb hb' => dj b hb (List.mem_cons_of_mem _ hb')) hnd (k := k)
          refine hQ _ (a :: fp') st (gheld_upd gh) ⟨a, _, fp', rfl, rfl, fun hm => ?_, ng, upd_same, q1⟩ fun b hb => ?_
          · rcases q2 a hm with z | z
            · exact na z
            · exact dj a z List.mem_cons_self
          · rcases List.mem_cons.mp hb with rfl | hb
            · exact .inl List.mem_cons_self
            · rcases q2 b hb with z | z
              · exact .inl (List.mem_cons_of_mem _ z)
              · exact .inr z
        have hput : ∀ {Q' : Hp → Prop}, Q' (upd H a (.dK (putK rv k v))) → rSetD (.ref a) (kV k) v H Q' := fun {Q'} h => ⟨a, _, rfl, DPut.k hl (by rw [hr.len, ← lim_eq]; exact hlen), h⟩
        split at e
        · cases e
          exact ⟨_, set_dict (by omega), hput (main _ (fld_of ro) (.inr trivial) fun H' fp' st g r hs => hQ H' fp' a List.mem_cons_self st g r hs)⟩
        · cases e
          exact ⟨_, set_dict (by omega), hput (main _ (fld_ls ro) (.inr trivial) fun H' fp' st g r hs => hQ H' fp' a List.mem_cons_self st g r hs)⟩
        · cases e
      · cases e
    · cases e
  · rename_i kvs
    split at e
    · rename_i hc
      simp only [Bool.and_eq_true, decide_eq_true_eq] at hc
      obtain ⟨hko, hlen⟩ := hc
      split at e
      · rename_i d
        cases e
        obtain ⟨a, xs, rfl, rfl, ng, hl, hr, hnd⟩ := rx
        have ry' : Rp K H G yv q := by
          obtain ⟨ds, k, rfl, _, _⟩ := keyOkD_iff hko
          exact ry
        obtain ⟨b, k, rfl, hnk, hdk, kh⟩ := key_ref hko ry'
        subst hK
        refine ⟨_, set_kd hu, a, b, xs, k, rfl, rfl, ⟨hl, hr.keys, hnd⟩, kh, by rw [hr.length, ← lim_eq]; exact hlen, fun u hu' => ?_⟩
        have st : Step H G (· = a) (upd H a (.ext (RawD a (storedH xs k b u)))) G (· = a) := step_ext hl
        have dG : ∀ b, G b → ¬ b = a := fun b g z => by subst z; exact ng g
        exact hQ _ [a] a (by simp) st (gheld_upd gh) ⟨a, _, rfl, rfl, ng, upd_same, (hr.put hnk hdk ry' hu' ro.2).mono (st.sub dG), stored_nodup hnd k b u⟩ fun b hb => .inl hb
      · cases e
    · cases e
  · cases e
theorem sub_assign {X : Cx} {o i : Expr} {p : Pos} (h : isSlice i = false) (v : Value) : assign (.Subscript o i p) X.env v = (do
      let ov ← holding [v] (eval o X.env)
      let iv ← holding [v, ov] (eval i X.env)
      standAt p
      holding [v, ov, iv] (setItem ov iv v)
      release [v, ov, iv] []) := by
  cases i <;> first | rfl | cases h
theorem sole_sub {v o i : Expr} {p : Pos} {l : Nat} {env : PySem.Env} : swapsWithSole [.Subscript o i p] v l env = pure false := by cases v <;> rfl
theorem ss_sub {v o i : Expr} {p : Pos} {env : PySem.Env} : swappedStores [.Subscript o i p] v env = pure none := by cases v <;> rfl
theorem ss_put {i : Nat} {k a : CE} {y : Str} {py pp p : Pos} {kx v : Expr} (hy : nmOk N sc i y = true) (hs : isSlice kx = false) (h1 : SE c N sc fn kx k) (h2 : SE c N sc fn v a) : SS c N pn sc fn (.Assign [.Subscript (.Name y py) kx pp] v p) (.put i k a) := by
  intro X W ok env σ H G fps out D E he hq
  simp only [evalS_put] at he
  refine tS_of (ps_asg (peS X v) (pg_sub (peS X (.Name y py)) (peS X kx) setAny (sub_assign hs)) sole_sub ss_sub rfl) ?_
  rcases sbnd_ways he with ⟨p1, env1, e1, he⟩ | ⟨y, env1, e1, rfl⟩
  · refine h2 X W ok.ok env σ H G fps _ _ E e1 fun v H1 G1 fps1 fpt1 a1 r1 s1 => ?_
    rcases sbnd_ways he with ⟨o, env2, e2, he⟩ | ⟨y, env2, e2, rfl⟩
    · obtain ⟨G2, fps2, fpt2, a2, r2⟩ := share_ok a1 r1 e2
      -- the place
      split at he
      rotate_left
      · cases he
      rename_i hsv
      obtain ⟨x0, hx0⟩ := Option.isSome_iff_exists.mp hsv
      obtain ⟨u, hu, _⟩ := a2.E.rep i x0 hx0
      refine tE_var ok.ok hy hu ?_
      rcases sbnd_ways he with ⟨p3, env3, e3, he⟩ | ⟨y, env3, e3, rfl⟩
      · refine h1 X W ok.ok env2 σ H1 G2 fps2 _ _ a2.E e3 fun w H3 G3 fps3 fpt3 a3 r3 s3 => ?_
        obtain ⟨r2', a2'⟩ := PR.next (p := .val o) (ne := false) a2 r2 a3 rfl (fun z => nomatch z)
        split at he
        · rename_i yd x f1 f2
          split at he
          · rename_i x' hx'
            cases he
            obtain ⟨u', hu', ox⟩ := a3.E.rep i x f2
            rw [hu] at hu'
            cases hu'
            refine putO_ok ok.ok.hu ok.ok.eK ox (pr_flat a3.E r3 f1) r2' (fun b hb hb' => a2'.off b hb ⟨i, hb'⟩) a3.E.gh hx' fun H' fp' ad ha st g r hs => ?_
            exact hq σ H' G3 _ (a2'.write f2 hu ha st g r hs) Pin.refl
          · cases he
        · cases he
      · exact h1 X W ok.ok env2 σ H1 G2 fps2 _ _ a2.E e3 fun cls d H3 G3 fps3 a3 x3 => hq cls d σ H3 G3 fps3 (a2.next a3) Pin.refl x3
    · exact (share_not e2).elim
  · exact h2 X W ok.ok env σ H G fps _ _ E e1 fun cls d H1 G1 fps1 a1 x1 => hq cls d σ H1 G1 fps1 a1 Pin.refl x1
/-! ### x[f][k] = d -/
theorem OwFs.write {K : PySem.W.Frag} {H : Hp} {G : Addr → Prop} {k : Key} {a : Addr} {xs : List V} {ds ds' : List D} (hl : H a = some (.lst xs)) {xs' : List V} (st : Step H G (· = a) (upd H a (.lst xs')) G (· = a)) (dG : ∀ b, G b → ¬ b = a) (hr : RpA K (upd H a (.lst xs')) G xs' ds') :
    ∀ {kvs : List (Key × Fld)} {rv : List (Key × V)} {fp : List Addr}, OwFs K H G kvs rv fp → look kvs k = some (.ls ds) → valV rv k = some (.ref a) → (kvs.map (·.1)).Nodup → OwFs K (upd H a (.lst xs')) G (NW.putF kvs k (.ls ds')) rv fp ∧ a ∈ fp
  | [], [], fp, h, e, _, _ => by cases e
  | (k0, f0) :: r, (k', v) :: rv, fp, h, e, hv, hn => by
    obtain ⟨rfl, fp1, fp2, rfl, dj, h1, h2⟩ := h
    rw [List.map_cons, List.nodup_cons] at hn
    by_cases hk : k0 = k
    · subst hk
      have e' : f0 = .ls ds := by
        unfold look at e
        rw [List.find?_cons_of_pos (by simp)] at e
        simpa using e
      subst e'
      rw [valV_pos rfl] at hv
      cases hv
      obtain ⟨a', ys, e1, rfl, ng, hl', hr'⟩ := h1
      cases e1
      have hnone : ∀ {r : List (Key × Fld)}, k0 ∉ r.map (·.1) → r.map (fun kv => if kv.1 = k0 then (kv.1, Fld.ls ds') else kv) = r := by
        intro r
        induction r with
        | nil => intro _; rfl
        | cons x r ih =>
          intro h
          rw [List.map_cons, List.mem_cons, not_or] at h
          rw [List.map_cons, ih h.2, if_neg (Ne.symm h.1)]
      have e1 : NW.putF ((k0, Fld.ls ds) :: r) k0 (.ls ds') = (k0, .ls ds') :: r := by
        unfold NW.putF
        rw [if_pos (by simp), List.map_cons, if_pos rfl, hnone hn.1]
      rw [e1]
      exact ⟨⟨rfl, [a], fp2, rfl, dj, ⟨a, xs', rfl, rfl, ng, upd_same, hr⟩, h2.step st dG fun b hb z => by subst z; exact dj b (by simp) hb⟩, by simp⟩
    · have e' : look r k = some (.ls ds) := by
        unfold look at e ⊢
        rw [List.find?_cons_of_neg (by simpa using hk)] at e
        exact e
      rw [valV_neg hk] at hv
      obtain ⟨q1, q2⟩ := OwFs.write hl st dG hr h2 e' hv hn.2
      have e1 : NW.putF ((k0, f0) :: r) k (.ls ds') = (k0, f0) :: NW.putF r k (.ls ds') := by
        unfold NW.putF
        by_cases ha : (r.any fun kv => decide (kv.1 = k)) = true
        · rw [if_pos ha, if_pos (by rw [List.any_cons, ha]; simp), List.map_cons, if_neg hk]
        · rw [if_neg ha, if_neg (by rw [List.any_cons]; simpa [hk] using ha)]; rfl
      rw [e1]
      exact ⟨⟨rfl, fp1, fp2, rfl, dj, h1.step st dG fun b hb z => by subst z; exact dj b hb q2, q1⟩, List.mem_append_right _ q2⟩
  | [], _ :: _, _, h, _, _, _ => h.elim
  | _ :: _, [], _, h, _, _, _ => h.elim
theorem putfO_ok {X : Cx} {K : PySem.W.Frag} (hK : X.K = K) {H : Hp} {G : Addr → Prop} {q d : D} {x x' : O} {k : Key} {xa : Addr} {rv0 : List (Key × V)} {yv v fv : V} {fpx : List Addr} {Q : Hp → Prop} (rx : Ow K H G x (.ref xa) fpx) (hxa : H xa = some (.dK rv0)) (hfv : valV rv0 k = some fv) (ry : RpS K H G yv q) (ro : Rp K H G v d) (gh : GHeld H G) (e : putfO q x k d = some x')
    (hQ : ∀ H' a, a ∈ fpx → Step H G (· = a) H' G (· = a) → GHeld H' G → Ow K H' G x' (.ref xa) fpx → Q H') : ∃ r, PSet X r ∧ r fv yv v H Q := by
  unfold putfO at e
  split at e
  · rename_i kvs
    split at e
    · rename_i ds j hlk
      split at e
      · rename_i hnd
        have hnd := of_decide_eq_true hnd
        cases hs : setAtI ds j d with
        | none => rw [hs] at e; cases e
        | some ds' =>
          rw [hs] at e
          cases e
          obtain ⟨n, hn, rfl⟩ := setAtI_ok hs
          obtain ⟨a, rv, fpr, e1, rfl, na, ng, hl, hr⟩ := rx
          cases e1
          rw [hxa] at hl
          cases hl
          obtain ⟨w, fp1, w1, w2, w3⟩ := look_val hr hlk
          rw [hfv] at w1
          cases w1
          obtain ⟨b, xs, rfl, rfl, ngb, hlb, hrb⟩ := w2
          have := rint ry
          subst this
          refine ⟨_, set_list, b, xs, j, n, rfl, rfl, hlb, by rw [dpAll_length hrb]; exact hn, ?_⟩
          have st : Step H G (· = b) (upd H b (.lst (xs.set n v))) G (· = b) := step_at ⟨xs, .inl hlb⟩
          have dG : ∀ z, G z → ¬ z = b := fun z g e => by subst e; exact ngb g
          have hba : xa ≠ b := fun e => by subst e; rw [hxa] at hlb; cases hlb
          obtain ⟨q1, q2⟩ := OwFs.write hlb st dG (dpAll_set (dp_mono (st.sub dG) _ _ ro) n (dpAll_mono (st.sub dG) _ _ hrb)) hr hlk hfv hnd
          exact hQ _ b (List.mem_cons_of_mem _ q2) st (gheld_upd gh) ⟨xa, rv0, fpr, rfl, rfl, na, ng, by rw [upd_ne hba]; exact hxa, q1⟩
      · cases e
    · cases e
  · cases e
theorem ss_putf {i : Nat} {f : Str} {k a : CE} {y : Str} {j : Nat} {py p1 p2 pp p : Pos} {kx v : Expr} (hy : nmOk N sc i y = true) (hs : isSlice kx = false) (h1 : SE c N sc fn kx k) (h2 : SE c N sc fn v a) : SS c N pn sc fn (.Assign [.Subscript (.Subscript (.Name y py) (.Constant (.str f) j p1) p2) kx pp] v p) (.putf i f k a) := by
  intro X W ok env σ H G fps out D E he hq
  simp only [evalS_putf] at he
  refine tS_of (ps_asg (peS X v) (pg_sub (peS X (.Subscript (.Name y py) (.Constant (.str f) j p1) p2)) (peS X kx) setAny (sub_assign hs)) sole_sub ss_sub rfl) ?_
  have hf : SE c N sc fn (.Subscript (.Name y py) (.Constant (.str f) j p1) p2) (.fld i f) := se_fld hy
  rcases sbnd_ways he with ⟨p1, env1, e1, he⟩ | ⟨y, env1, e1, rfl⟩
  · refine h2 X W ok.ok env σ H G fps _ _ E e1 fun v H1 G1 fps1 fpt1 a1 r1 s1 => ?_
    rcases sbnd_ways he with ⟨d, env2, e2, he⟩ | ⟨y, env2, e2, rfl⟩
    · obtain ⟨G2, fps2, a2, r2⟩ := frz_ok a1 r1 e2
      rcases sbnd_ways he with ⟨pr, env3, e3, he⟩ | ⟨y, env3, e3, rfl⟩
      · refine hf X W ok.ok env2 σ H1 G2 fps2 _ _ a2.E e3 fun fv H3 G3 fps3 fpt3 a3 r3 s3 => ?_
        rcases sbnd_ways he with ⟨q, env4, e4, he⟩ | ⟨y, env4, e4, rfl⟩
        · refine h1 X W ok.ok env3 σ H3 G3 fps3 _ _ a3.E e4 fun w H4 G4 fps4 fpt4 a4 r4 s4 => ?_
          split at he
          · rename_i hst
            rw [Bool.and_eq_true] at hst
            obtain ⟨r3', a3'⟩ := r3.next a3 a4 hst.2 s4
            have hat := a2.next (a3.next a4)
            have rd := (a2.next a3).frame a4 (a2.frame a3 r2)
            split at he
            · rename_i yd x f1 f2
              split at he
              · rename_i x' hx'
                cases he
                -- the field's place
                simp only [evalE_fld] at e3
                split at e3
                · rename_i kvs hk
                  split at e3
                  · cases e3; cases hst.1
                  · cases e3
                    obtain ⟨_, xa, rv, g1, g2, g3⟩ := r3'
                    obtain ⟨u', hu', ox⟩ := a4.E.rep i x f2
                    rw [g1] at hu'
                    cases hu'
                    refine putfO_ok ok.ok.eK ox g2 g3 (pr_flat a4.E r4 f1) rd a4.E.gh hx' fun H' ad ha st g r => ?_
                    exact hq σ H' G4 _ (hat.drop.write f2 g1 ha st g r fun b hb => .inl hb) Pin.refl
                  · cases e3
                · cases e3
              · cases he
            · cases he
          · cases he
        · exact h1 X W ok.ok env3 σ H3 G3 fps3 _ _ a3.E e4 fun cls d H4 G4 fps4 a4 x4 => hq cls d σ H4 G4 fps4 ((a2.next a3).next a4) Pin.refl x4
      · exact hf X W ok.ok env2 σ H1 G2 fps2 _ _ a2.E e3 fun cls d H3 G3 fps3 a3 x3 => hq cls d σ H3 G3 fps3 (a2.next a3) Pin.refl x3
    · exact (frz_not e2).elim
  · exact h2 X W ok.ok env σ H G fps _ _ E e1 fun cls d H1 G1 fps1 a1 x1 => hq cls d σ H1 G1 fps1 a1 Pin.refl x1
/-! ### append -/
theorem ss_append {i : Nat} {a : CE} {y : Str} {py ap cp p : Pos} {x : Expr} (hy : nmOk N sc i y = true) (hline : (ap.endLine == cp.line) = true) (hs : isStar x = false) (h : SE c N sc fn x a) : SS c N pn sc fn (.Expr (.Call (.Attribute (.Name y py) "append" ap) [x] [] cp) p) (.append i a) := by
  intro X W ok env σ H G fps out D E he hq
  simp only [evalS_append] at he
  split at he
  · rename_i hisl
    have hst := star_ok hs [] X.env
    refine tS_of (ps_expr (pe_bm PySem.F.plainAttrs_list PySem.F.slot_list_append PySem.F.type_list_append mt_append (peS X (.Name y py)) (pa_cons (peS X x) pa_nil hst) rfl (by rw [hst]; rfl) hline hst rfl) (sw_none rfl)) ?_
    cases hsl : slot env i with
    | none => rw [hsl] at hisl; cases hisl
    | some o =>
      rw [hsl] at hisl
      cases o with
      | fz d => cases hisl
      | dct kvs => cases hisl
      | kd kvs => cases hisl
      | lst ds0 =>
        obtain ⟨u, hu, ou⟩ := E.rep i _ hsl
        refine tE_var ok.ok hy hu ?_
        obtain ⟨ua, xs0, rfl, hfp, ng0, hl0, hr0⟩ := ou
        refine ⟨.inl ⟨rfl, xs0, SqL.of hl0⟩, ?_⟩
        rcases sbnd_ways he with ⟨p1, env1, e1, he⟩ | ⟨z, env1, e1, rfl⟩
        · refine h X W ok.ok env σ H G fps _ _ E e1 fun v H1 G1 fps1 fpt1 a1 r1 s1 => ?_
          rcases sbnd_ways he with ⟨d, env2, e2, he⟩ | ⟨z, env2, e2, rfl⟩
          · obtain ⟨G2, fps2, a2, r2⟩ := frz_ok a1 r1 e2
            split at he
            · rename_i xo hxo
              split at he
              · rename_i x' hx'
                cases he
                unfold appO at hx'
                split at hx'
                · rename_i ds
                  split at hx'
                  · rename_i hlen
                    cases hx'
                    obtain ⟨u', hu', ox⟩ := a2.E.rep i _ hxo
                    rw [hu] at hu'
                    cases hu'
                    obtain ⟨ua', xs, e1', hfp', ng, hl, hr⟩ := ox
                    cases e1'
                    refine ⟨ua, xs, v, rfl, rfl, hl, by rw [dpAll_length hr, ← lim_eq]; exact hlen, ?_⟩
                    have st : Step H1 G2 (· = ua) (upd H1 ua (.lst (xs ++ [v]))) G2 (· = ua) := step_at ⟨xs, .inl hl⟩
                    have dG : ∀ z, G2 z → ¬ z = ua := fun z g e => by subst e; exact ng g
                    have := a2.write (o' := .lst (ds ++ [d])) (fp' := [ua]) hxo hu (by rw [hfp']; simp) st (gheld_upd a2.E.gh) ⟨ua, _, rfl, rfl, ng, upd_same, dpAll_append (dpAll_mono (st.sub dG) _ _ hr) (.cons (dp_mono (st.sub dG) _ _ r2) .nil)⟩ fun b hb => .inl (by rw [hfp']; exact hb)
                    exact hq σ _ G2 _ this Pin.refl
                  · cases hx'
                · cases hx'
              · cases he
            · cases he
          · exact (frz_not e2).elim
        · exact h X W ok.ok env σ H G fps _ _ E e1 fun cls d H1 G1 fps1 a1 x1 => hq cls d σ H1 G1 fps1 a1 Pin.refl x1
  · cases he
theorem ss_extend {i : Nat} {a : CE} {y : Str} {py ap cp p : Pos} {x : Expr} (hy : nmOk N sc i y = true) (hline : (ap.endLine == cp.line) = true) (hs : isStar x = false) (h : SE c N sc fn x a) : SS c N pn sc fn (.Expr (.Call (.Attribute (.Name y py) "extend" ap) [x] [] cp) p) (.extend i a) := by
  intro X W ok env σ H G fps out D E he hq
  simp only [evalS_extend] at he
  split at he
  · rename_i hisl
    have hst := star_ok hs [] X.env
    refine tS_of (ps_expr (pe_bm PySem.F.plainAttrs_list PySem.F.slot_list_extend PySem.F.type_list_extend mt_extend (peS X (.Name y py)) (pa_cons (peS X x) pa_nil hst) rfl (by rw [hst]; rfl) hline hst rfl) (sw_none rfl)) ?_
    cases hsl : slot env i with
    | none => rw [hsl] at hisl; cases hisl
    | some o =>
      rw [hsl] at hisl
      cases o with
      | fz d => cases hisl
      | dct kvs => cases hisl
      | kd kvs => cases hisl
      | lst ds0 =>
        obtain ⟨u, hu, ou⟩ := E.rep i _ hsl
        refine tE_var ok.ok hy hu ?_
        obtain ⟨ua, xs0, rfl, hfp, ng0, hl0, hr0⟩ := ou
        refine ⟨.inl ⟨rfl, xs0, SqL.of hl0⟩, ?_⟩
        rcases sbnd_ways he with ⟨p1, env1, e1, he⟩ | ⟨z, env1, e1, rfl⟩
        · refine h X W ok.ok env σ H G fps _ _ E e1 fun v H1 G1 fps1 fpt1 a1 r1 s1 => ?_
          split at he
          · rename_i zd ds hxo
            split at he
            · rename_i hlen
              cases he
              obtain ⟨b, zs, rfl, hfb, ngb, hlb, hrb⟩ := r1
              obtain ⟨u', hu', ox⟩ := a1.E.rep i _ hxo
              rw [hu] at hu'
              cases hu'
              obtain ⟨ua', xs, e1', hfp', ng, hl, hr⟩ := ox
              cases e1'
              refine ⟨ua, b, xs, zs, rfl, rfl, hl, hlb, by rw [dpAll_length hr, dpAll_length hrb, ← lim_eq]; exact hlen, ?_⟩
              have st : Step H1 G1 (· = ua) (upd H1 ua (.lst (xs ++ zs))) G1 (· = ua) := step_at ⟨xs, .inl hl⟩
              have dG : ∀ z, G1 z → ¬ z = ua := fun z g e => by subst e; exact ng g
              have := a1.drop.write (o' := .lst (ds ++ zd)) (fp' := [ua]) hxo hu (by rw [hfp']; simp) st (gheld_upd a1.E.gh) ⟨ua, _, rfl, rfl, ng, upd_same, dpAll_append (dpAll_mono (st.sub dG) _ _ hr) (dpAll_mono (st.sub dG) _ _ hrb)⟩ fun b hb => .inl (by rw [hfp']; exact hb)
              exact hq σ _ G1 _ this Pin.refl
            · cases he
          · cases he
        · exact h X W ok.ok env σ H G fps _ _ E e1 fun cls d H1 G1 fps1 a1 x1 => hq cls d σ H1 G1 fps1 a1 Pin.refl x1
  · cases he
end
end NW
end
section
set_option linter.all false
set_option maxRecDepth 100000
set_option maxHeartbeats 2000000
/-! NWq: parallel stores, loops, all statements -/
namespace NW
open PySem L2 PyProof.Rows
theorem swR_len {sc : Scope} {ts vs : List Expr} {names : List Str} (h : swR sc ts vs = some (some names)) : (ts.length = 2 ∨ ts.length = 3) ∧ ∃ L : Nat, names = (ts.filterMap fun
      | .Name id pos => if sc.names.lookup id == some .local && pos.line == L then some id else none
      | _ => none) ∧ names.length = ts.length := by
  unfold swR at h
  split at h
  · cases h
  · rename_i h1
    split at h
    · cases h
    · simp only at h
      split at h
      · cases h
      · rename_i h3
        split at h
        · cases h
        · split at h
          · cases h
          · cases h
            refine ⟨?_, (Option.map (fun x => x.pos.line) ts.head?).getD 0, rfl, ?_⟩
            · simp only [Bool.or_eq_true, Bool.not_eq_true', not_or, Bool.not_eq_false, bne_iff_ne, beq_iff_eq, ne_eq, Decidable.not_not] at h1
              exact h1.1
            · simp only [Bool.or_eq_true, not_or, bne_iff_ne, ne_eq, Decidable.not_not] at h3
              exact h3.1
theorem fm_all {α β : Type} {f : α → Option β} : ∀ ts : List α, (ts.filterMap f).length = ts.length → ts.map f = (ts.filterMap f).map some
  | [], _ => rfl
  | a :: ts, h => by
    cases e : f a with
    | none =>
      rw [List.filterMap_cons_none e, List.length_cons] at h
      have := List.length_filterMap_le f ts
      omega
    | some b =>
      rw [List.filterMap_cons_some e, List.length_cons, List.length_cons] at h
      rw [List.filterMap_cons_some e, List.map_cons, List.map_cons, e, fm_all ts (by omega)]
theorem nm_loc {sc : Scope} {x z : Str} {px : Pos} {L : Nat} (h : (if sc.names.lookup x == some .local && px.line == L then some x else none) = some z) : z = x ∧ sc.names.lookup x = some .local := by
  split at h
  · rename_i hx
    rw [Bool.and_eq_true, beq_iff_eq] at hx
    cases h
    exact ⟨rfl, hx.1⟩
  · cases h
theorem swR_2 {sc : Scope} {x y : Str} {px py : Pos} {vs : List Expr} {names : List Str} (h : swR sc [.Name x px, .Name y py] vs = some (some names)) : names = [x, y] ∧ sc.names.lookup x = some .local ∧ sc.names.lookup y = some .local := by
  obtain ⟨_, L, e, hl⟩ := swR_len h
  rw [e] at hl
  have := fm_all _ hl
  rw [← e] at this hl
  match names, hl with
  | [a, b], _ =>
    simp only [List.map_cons, List.map_nil] at this
    injection this with h1 h2
    injection h2 with h2 _
    obtain ⟨rfl, q1⟩ := nm_loc h1
    obtain ⟨rfl, q2⟩ := nm_loc h2
    exact ⟨rfl, q1, q2⟩
theorem swR_3 {sc : Scope} {x y z : Str} {px py pz : Pos} {vs : List Expr} {names : List Str} (h : swR sc [.Name x px, .Name y py, .Name z pz] vs = some (some names)) : names = [x, y, z] ∧ sc.names.lookup x = some .local ∧ sc.names.lookup y = some .local ∧ sc.names.lookup z = some .local := by
  obtain ⟨_, L, e, hl⟩ := swR_len h
  rw [e] at hl
  have := fm_all _ hl
  rw [← e] at this hl
  match names, hl with
  | [a, b, d], _ =>
    simp only [List.map_cons, List.map_nil] at this
    injection this with h1 h2
    injection h2 with h2 h3
    injection h3 with h3 _
    obtain ⟨rfl, q1⟩ := nm_loc h1
    obtain ⟨rfl, q2⟩ := nm_loc h2
    obtain ⟨rfl, q3⟩ := nm_loc h3
    exact ⟨rfl, q1, q2, q3⟩
/-- things at hand -/
def OwL (K : PySem.W.Frag) (H : Hp) (G : Addr → Prop) : List O → List V → List Addr → Prop
  | [], [], fp => fp = []
  | o :: r, v :: rv, fp => ∃ fp1 fp2, fp = fp1 ++ fp2 ∧ (∀ a ∈ fp1, a ∉ fp2) ∧ Ow K H G o v fp1 ∧ OwL K H G r rv fp2
  | _, _, _ => False
theorem OwL.same {K : PySem.W.Frag} {H H' : Hp} {G : Addr → Prop} (s : Same H H') : ∀ {os : List O} {vs : List V} {fp : List Addr}, OwL K H G os vs fp → OwL K H' G os vs fp
  | [], [], fp, h => h
  | o :: r, v :: rv, fp, h => by
    obtain ⟨fp1, fp2, rfl, dj, h1, h2⟩ := h
    exact ⟨fp1, fp2, rfl, dj, h1.same s, OwL.same s h2⟩
  | [], _ :: _, _, h => h.elim
  | _ :: _, [], _, h => h.elim
theorem OwL.len {K : PySem.W.Frag} {H : Hp} {G : Addr → Prop} : ∀ {os : List O} {vs : List V} {fp : List Addr}, OwL K H G os vs fp → vs.length = os.length
  | [], [], fp, h => rfl
  | o :: r, v :: rv, fp, h => by
    obtain ⟨fp1, fp2, rfl, dj, h1, h2⟩ := h
    rw [List.length_cons, List.length_cons, OwL.len h2]
  | [], _ :: _, _, h => h.elim
  | _ :: _, [], _, h => h.elim
def GOs (c : Ct) (W : WX) (σ : L2.St) (H : Hp) (G : Addr → Prop) (fps : Fs) (Q : List V → Hp → Prop) : Out (List O) → Prop
  | .ok os env' => ∀ vs H' G' fps' fpt, Aft c.K σ H G fps env' H' G' fps' fpt → OwL c.K H' G' os vs fpt → Q vs H'
  | .exc x env' => ∀ cls d H' G' fps', Aft c.K σ H G fps env' H' G' fps' [] → c.xr x cls d H' → W cls d σ H'
def SOs (c : Ct) (N : List Str) (sc : Scope) (fn : Str → Bool) (l : List Expr) (a : CEs) : Prop := ∀ X W, CtxOk c X W N sc fn → ∀ env σ H G fps out Q, EnvR c.K env σ H G fps → evalOs c.Γ a env = some out → GOs c W σ H G fps Q out → tA X l σ H Q
section
variable {c : Ct} {N : List Str} {sc : Scope} {fn : Str → Bool} {pn : Nat}
theorem snd_Os : ∀ (as : CEs) (l : List Expr), mEs N as sc fn l = true → SOs c N sc fn l as
  | .nil, [], _ => by
    intro X W ok env σ H G fps out Q E he hq
    simp only [evalOs_nil] at he
    cases he
    exact tA_of pa_nil (hq [] H G fps [] (Aft.refl E) rfl)
  | .cons a as, e :: l, hm => by
    intro X W ok env σ H G fps out Q E he hq
    simp only [mEs_cons, Bool.and_eq_true, Bool.not_eq_true'] at hm
    simp only [evalOs_cons] at he
    refine tA_of (pa_cons (peS X e) (paS X l) (star_ok hm.1.1 l X.env)) ?_
    rcases bnd_ways he with ⟨p, env1, e1, he⟩ | ⟨y, env1, e1, rfl⟩
    · refine snd_E a sc fn e hm.1.2 X W ok env σ H G fps _ _ E e1 fun v H1 G1 fps1 fpt1 a1 r1 s1 => ?_
      rcases bnd_ways he with ⟨o, env2, e2, he⟩ | ⟨y, env2, e2, rfl⟩
      · obtain ⟨G2, fps2, fpt2, a2, r2⟩ := share_ok a1 r1 e2
        rcases bnd_ways he with ⟨os, env3, e3, he⟩ | ⟨y, env3, e3, rfl⟩
        · cases he
          refine snd_Os as l hm.2 X W ok env2 σ H1 G2 fps2 _ _ a2.E e3 fun vs H3 G3 fps3 fpt3 a3 r3 => ?_
          obtain ⟨r2', a2'⟩ := PR.next (p := .val o) (ne := false) a2 r2 a3 rfl (fun z => nomatch z)
          refine hq (v :: vs) H3 G3 fps3 (fpt2 ++ fpt3) (a2'.app (a2.next a3)) ⟨fpt2, fpt3, rfl, fun b hb hb' => ?_, r2', r3⟩
          rcases a3.new b hb' with z | z
          · exact a2.off b hb z
          · obtain ⟨_, u, e⟩ := r2.held b hb
            rw [e] at z; cases z
        · exact snd_Os as l hm.2 X W ok env2 σ H1 G2 fps2 _ _ a2.E e3 fun cls d H3 G3 fps3 a3 x3 => hq cls d H3 G3 fps3 (a2.next a3) x3
      · exact (share_not e2).elim
    · exact snd_E a sc fn e hm.1.2 X W ok env σ H G fps _ _ E e1 fun cls d H1 G1 fps1 a1 x1 => hq cls d H1 G1 fps1 a1 x1
  | .nil, _ :: _, h => by simp [mEs_nil] at h
  | .cons _ _, [], h => by simp [mEs_cons] at h
/-- things stored to names, one behind another -/
def setVs : L2.St → List Nat → List V → L2.St
  | σ, i :: is, v :: vs => setVs (σ.set i (some v)) is vs
  | σ, _, _ => σ
theorem put_all {K : PySem.W.Frag} {H : Hp} {G : Addr → Prop} : ∀ {l : List Nat} {os : List O} {vs : List V} {fp : List Addr} {env env2 : Env} {σ : L2.St} {fps : Fs}, EnvR K env σ H G fps → OwL K H G os vs fp → (∀ b ∈ fp, ¬ FF fps b) → setOs env l os = some env2 →
    ∃ fps', EnvR K env2 (setVs σ l vs) H G fps' ∧ ∀ b, FF fps' b → FF fps b ∨ b ∈ fp
  | [], [], [], fp, env, env2, σ, fps, E, r, off, e => by
    cases e
    exact ⟨fps, E, fun b h => .inl h⟩
  | i :: l, o :: os, v :: vs, fp, env, env2, σ, fps, E, r, off, e => by
    obtain ⟨fp1, fp2, rfl, dj, h1, h2⟩ := r
    obtain ⟨fps1, E1, f1⟩ := E.put (i := i) h1 fun b hb => off b (List.mem_append_left _ hb)
    obtain ⟨fps2, E2, f2⟩ := put_all (l := l) E1 h2 (fun b hb z => by
      rcases f1 b z with y | y
      · exact off b (List.mem_append_right _ hb) y
      · exact dj b y hb) e
    refine ⟨fps2, E2, fun b hb => ?_⟩
    rcases f2 b hb with z | z
    · rcases f1 b z with y | y
      · exact .inl y
      · exact .inr (List.mem_append_left _ y)
    · exact .inr (List.mem_append_right _ z)
  | [], _ :: _, _, _, _, _, _, _, _, _, _, e => by cases e
  | _ :: _, [], _, _, _, _, _, _, _, _, _, e => by cases e
  | _ :: _, _ :: _, [], _, _, _, _, _, _, r, _, _ => r.elim
  | [], [], _ :: _, _, _, _, _, _, _, r, _, _ => r.elim
theorem setOs_len : ∀ {l : List Nat} {os : List O} {env env2 : Env}, setOs env l os = some env2 → os.length = l.length
  | [], [], _, _, _ => rfl
  | _ :: l, _ :: os, env, env2, e => by rw [List.length_cons, List.length_cons, setOs_len (l := l) e]
  | [], _ :: _, _, _, e => by cases e
  | _ :: _, [], _, _, e => by cases e
theorem gsT_vs {Q : L2.St → Hp → Prop} {H : Hp} : ∀ {l : List Nat} {vs : List V} {σ : L2.St}, vs.length = l.length → Q (setVs σ l vs) H → gsT l vs σ H Q
  | [], [], σ, _, q => ⟨rfl, q⟩
  | i :: l, v :: vs, σ, h, q => ⟨v, vs, rfl, gsT_vs (Nat.succ.inj h) q⟩
  | [], _ :: _, _, h, _ => by cases h
  | _ :: _, [], _, h, _ => by cases h
theorem setVs_pin : ∀ {l : List Nat} {vs : List V} {σ : L2.St}, (∀ i ∈ l, pn ≤ i) → Pin pn σ (setVs σ l vs)
  | [], _, σ, _ => Pin.refl
  | i :: l, [], σ, _ => Pin.refl
  | i :: l, v :: vs, σ, h => (Pin.set (h i List.mem_cons_self)).trans (setVs_pin fun j hj => h j (List.mem_cons_of_mem _ hj))
theorem len_two {α : Type} {l : List α} (h : l.length = 2) : ∃ a b, l = [a, b] := by
  match l, h with
  | [a, b], _ => exact ⟨a, b, rfl⟩
theorem len_three {α : Type} {l : List α} (h : l.length = 3) : ∃ a b c, l = [a, b, c] := by
  match l, h with
  | [a, b, c], _ => exact ⟨a, b, c, rfl⟩
theorem names_cons {l : List Nat} {e : Expr} {ts : List Expr} (h : mNames N sc fn l (e :: ts) = true) : ∃ i l' x px, l = i :: l' ∧ e = .Name x px ∧ N[i]? = some x ∧ mNames N sc fn l' ts = true := by
  cases l with
  | nil => cases h
  | cons i l =>
    cases e
    case Name x px =>
      simp only [mNames, Bool.and_eq_true, decide_eq_true_eq] at h
      exact ⟨i, l, x, px, rfl, rfl, h.1.1, h.2⟩
    all_goals cases h
theorem names_nil {l : List Nat} (h : mNames N sc fn l [] = true) : l = [] := by
  cases l with
  | nil => rfl
  | cons i l => cases h
theorem names_two {l : List Nat} {ts : List Expr} (h : mNames N sc fn l ts = true) (h2 : ts.length = 2) : ∃ i j x px y py, l = [i, j] ∧ ts = [.Name x px, .Name y py] ∧ N[i]? = some x ∧ N[j]? = some y := by
  obtain ⟨a, b, rfl⟩ := len_two h2
  obtain ⟨i, l, x, px, rfl, rfl, n1, h⟩ := names_cons h
  obtain ⟨j, l, y, py, rfl, rfl, n2, h⟩ := names_cons h
  have := names_nil h
  subst this
  exact ⟨i, j, x, px, y, py, rfl, rfl, n1, n2⟩
theorem names_three {l : List Nat} {ts : List Expr} (h : mNames N sc fn l ts = true) (h2 : ts.length = 3) : ∃ i j k x px y py z pz, l = [i, j, k] ∧ ts = [.Name x px, .Name y py, .Name z pz] ∧ N[i]? = some x ∧ N[j]? = some y ∧ N[k]? = some z := by
  obtain ⟨a, b, d, rfl⟩ := len_three h2
  obtain ⟨i, l, x, px, rfl, rfl, n1, h⟩ := names_cons h
  obtain ⟨j, l, y, py, rfl, rfl, n2, h⟩ := names_cons h
  obtain ⟨k, l, z, pz, rfl, rfl, n3, h⟩ := names_cons h
  have := names_nil h
  subst this
  exact ⟨i, j, k, x, px, y, py, z, pz, rfl, rfl, n1, n2, n3⟩
theorem ss_par {l : List Nat} {es : CEs} {ts vs : List Expr} {k1 k2 : Nat} {p1 p2 p : Pos} (ht : mNames N sc fn l ts = true) (hv : mEs N es sc fn vs = true) (hl : ts.length = vs.length) (h100 : l.length ≤ 100) (hsw : (swR sc ts vs).isSome = true) : SS c N pn sc fn (.Assign [.Tuple ts k1 p1] (.Tuple vs k2 p2) p) (.par l es) := by
  intro X W ok env σ H G fps out D E he hq
  simp only [evalS_par] at he
  split at he
  rotate_left
  · cases he
  rename_i hc
  rw [Bool.and_eq_true] at hc
  obtain ⟨hpn, hnd⟩ := hc
  have hnd := of_decide_eq_true hnd
  rw [List.all_eq_true] at hpn
  have hpn : ∀ i ∈ l, pn ≤ i := fun i hi => of_decide_eq_true (hpn i hi)
  have hk : X.env.scope.kind = .function := by rw [ok.ok.eS]; exact ok.kd
  obtain ⟨r, hr⟩ := Option.isSome_iff_exists.mp hsw
  have hR := sw_R (k1 := k1) (k2 := k2) (p1 := p1) (p2 := p2) hk (by rw [ok.ok.eS]; exact hr)
  obtain ⟨hte, htl⟩ := each_names X.env ht
  -- behind the values
  have rest : ∀ {Q : List V → Hp → Prop}, (∀ vs' H1, vs'.length = l.length → (∀ H2, Same H1 H2 → H1 = H2 ∨ (∃ q xs, H1 q = none ∧ H2 = upd H1 q (.tup xs)) → D.nx (setVs σ l vs') H2) → Q vs' H1) → tA X vs σ H Q := fun {Q} hQ => by
    rcases sbnd_ways he with ⟨os, env1, e1, he⟩ | ⟨y, env1, e1, rfl⟩
    · refine snd_Os es vs hv X W ok.ok env σ H G fps _ _ E e1 fun vs' H1 G1 fps1 fpt1 a1 r1 => ?_
      split at he
      · rename_i env2 e2
        cases he
        refine hQ vs' H1 (by rw [r1.len, setOs_len e2]) fun H2 sm _ => ?_
        have E2 := a1.E.same sm
        obtain ⟨fps3, E3, f3⟩ := put_all E2 (r1.same sm) a1.off e2
        have S2 := a1.S.trans (Same.stepF sm (G := G1) (F := FF fps1))
        refine hq _ H2 G1 fps3 ⟨E3, ⟨S2.keep, S2.tups, S2.frzs, S2.gsub, S2.gnew, fun b hb => ?_⟩, (fun b hb => nomatch hb), (fun b hb => nomatch hb)⟩ (setVs_pin hpn)
        rcases f3 b hb with z | z
        · exact S2.fnew b z
        · exact a1.new b z
      · cases he
    · exact snd_Os es vs hv X W ok.ok env σ H G fps _ _ E e1 fun cls d H1 G1 fps1 a1 x1 => hq cls d σ H1 G1 fps1 a1 Pin.refl x1
  cases r with
  | none =>
    refine tS_of (ps_asg (pe_tup (paS X vs)) (pg_tup (n := l.length) ok.ok.calm (pgs_names ok.ok ht) (by rw [hte, List.length_map, htl]) (by rw [hte]; exact findIdx_none _ _)) sw_tup hR rfl) ?_
    refine rest fun vs' H1 hlen h => ⟨?_, fun q hq' => ?_⟩
    · rw [hlen, sizeLine_eq]; omega
    · refine ⟨q, vs', rfl, SqT.of upd_same, hlen, gsT_vs hlen (h _ (same_upd hq') (.inr ⟨q, vs', hq', rfl⟩))⟩
  | some names =>
    obtain ⟨h23, _⟩ := swR_len hr
    rcases h23 with h2 | h3
    · obtain ⟨i, j, x, px, y, py, rfl, rfl, n1, n2⟩ := names_two ht h2
      obtain ⟨a, b, rfl⟩ := len_two (hl.symm.trans h2)
      obtain ⟨rfl, q1, q2⟩ := swR_2 hr
      have hij : i ≠ j := fun e => by subst e; simp at hnd
      refine tS_of (ps_par (X := X) (i := i) (j := j) ok.ok.calm (by rw [ok.ok.eN]; exact ok.ok.nd) (by rw [ok.ok.eN]; exact n1) (by rw [ok.ok.eN]; exact n2) hij (by rw [ok.ok.eS]; exact q1) (by rw [ok.ok.eS]; exact q2) (paS X [a, b]) hR sw_tup) ?_
      refine rest fun vs' H1 hlen h => ?_
      obtain ⟨v, w, rfl⟩ := len_two hlen
      exact ⟨v, w, rfl, h H1 (same_refl H1) (.inl rfl)⟩
    · obtain ⟨i, j, k, x, px, y, py, z, pz, rfl, rfl, n1, n2, n3⟩ := names_three ht h3
      obtain ⟨a, b, d, rfl⟩ := len_three (hl.symm.trans h3)
      obtain ⟨rfl, q1, q2, q3⟩ := swR_3 hr
      have hij : i ≠ j := fun e => by subst e; simp at hnd
      have hik : i ≠ k := fun e => by subst e; simp at hnd
      have hjk : j ≠ k := fun e => by subst e; simp at hnd
      refine tS_of (ps_par3 (X := X) (i := i) (j := j) (l := k) ok.ok.calm (by rw [ok.ok.eN]; exact ok.ok.nd) (by rw [ok.ok.eN]; exact n1) (by rw [ok.ok.eN]; exact n2) (by rw [ok.ok.eN]; exact n3) hij hik hjk (by rw [ok.ok.eS]; exact q1) (by rw [ok.ok.eS]; exact q2) (by rw [ok.ok.eS]; exact q3) (paS X [a, b, d]) hR sw_tup) ?_
      refine rest fun vs' H1 hlen h => ?_
      obtain ⟨u, v, w, rfl⟩ := len_three hlen
      exact ⟨u, v, w, rfl, h H1 (same_refl H1) (.inl rfl)⟩
/-! ### loops -/
theorem forL_cons {body : D → Env → Option SO} {d : D} {ds : List D} {env : Env} {out : SO} (h : forL body (d :: ds) env = some out) :
    ∃ o, body d env = some o ∧ match o with
      | .nx e => forL body ds e = some out
      | .cnt e => forL body ds e = some out
      | .brk e => out = .nx e
      | .ret a e => out = .ret a e
      | .exc x e => out = .exc x e := by
  unfold forL at h
  split at h
  · rename_i e q; exact ⟨_, q, h⟩
  · rename_i e q; exact ⟨_, q, h⟩
  · rename_i e q; cases h; exact ⟨_, q, rfl⟩
  · rename_i h1 h2 h3
    cases q : body d env with
    | none => rw [q] at h; cases h
    | some o =>
      rw [q] at h
      cases h
      cases out with
      | nx e => exact (h1 e q).elim
      | cnt e => exact (h2 e q).elim
      | brk e => exact (h3 e q).elim
      | ret a e => exact ⟨_, rfl, rfl⟩
      | exc x e => exact ⟨_, rfl, rfl⟩
theorem ss_for {t : CT} {src : CI} {body : CSs} {tg it : Expr} {b : List Stmt} {p : Pos} (hset : isSet it = false) (hi : SI c N sc fn tg it src) (ht : mT N sc fn t tg = true) (hb : SSs c N pn sc fn b body) : SS c N pn sc fn (.For tg it b [] p) (.for_ t src body) := by
  intro X W ok env σ H G fps out Z E he hq
  simp only [evalS_for] at he
  split at he
  rotate_left
  · cases he
  rename_i hpn
  refine tS_of (ps_for ok.po ok.ok.calm (piS X tg it) (pg_T ok.ok ht) (pssS X b) (fun x => notSet_ok hset X.env x)) ?_
  rcases sbnd_ways he with ⟨items, env1, e1, he⟩ | ⟨y, env1, e1, rfl⟩
  rotate_left
  · exact hi X W ok.ok env σ H G fps _ _ E e1 fun cls d H1 G1 fps1 a1 x1 => hq cls d σ H1 G1 fps1 a1 Pin.refl x1
  refine hi X W ok.ok env σ H G fps _ _ E e1 fun J H1 G1 fps1 a1 src1 s1 => ?_
  obtain ⟨R0, r0, rst, rd⟩ := src1
  let bf : D → Env → Option SO := bodyF (setT t) (evalSs c.Γ pn body)
  have he : forL bf items env1 = some out := he
  refine ⟨fun i m σ' H' => m = items.length - i ∧ i ≤ items.length ∧ ∃ env' G' fps', Aft c.K σ' H G fps env' H' G' fps' [] ∧ Pin pn σ σ' ∧ R0 H' G' ∧ forL bf (items.drop i) env' = some out, ⟨items.length, (Nat.sub_zero _).symm, Nat.zero_le _, env1, G1, fps1, a1, Pin.refl, r0, he⟩, ?_⟩
  rintro i m σ' H' ⟨rfl, hile, env', G', fps', a', hp', r', hf⟩
  by_cases hil : i < items.length
  rotate_left
  · have e : i = items.length := by omega
    subst e
    rw [List.drop_length] at hf
    cases hf
    exact .inl ⟨(rd _ H' G' r').2 (Nat.le_refl _), hq σ' H' G' fps' a' hp'⟩
  rw [List.drop_eq_getElem_cons hil] at hf
  obtain ⟨o, hbo, hrest⟩ := forL_cons hf
  obtain ⟨go, yl⟩ := (rd i H' G' r').1 items[i] (List.getElem?_eq_getElem hil)
  refine .inr ⟨go, fun σ2 H2 => ∃ env' G' fps', Aft c.K σ2 H G fps env' H2 G' fps' [] ∧ Pin pn σ σ2 ∧ R0 H2 G' ∧ forL bf (items.drop (i + 1)) env' = some out, fun σ2 H2 n2 => ⟨items.length - (i + 1), by omega, rfl, hil, n2⟩, fun x H2 y => ?_⟩
  obtain ⟨sm2, rx⟩ := yl x H2 y
  have hbo' : (match setT t items[i] env' with
      | some env => evalSs c.Γ pn body env
      | none => none) = some o := hbo
  split at hbo'
  rotate_left
  · cases hbo'
  rename_i ea hea
  rw [ok.ok.eK]
  refine gT_ok (a'.E.same sm2) rx hea fun σ3 fps3 E3 hf3 hσ3 hl3 => ?_
  have a3 : Aft c.K σ3 H G fps ea H2 G' fps3 [] := by
    have z := a'.S.trans (Same.stepF sm2 (G := G') (F := FF fps'))
    exact ⟨E3, ⟨z.keep, z.tups, z.frzs, z.gsub, z.gnew, fun b hb => z.fnew b (hf3 b hb)⟩, (fun b hb => nomatch hb), (fun b hb => nomatch hb)⟩
  have p3 : Pin pn σ σ3 := hp'.trans (gT_pin hpn hσ3)
  have r3 : R0 H2 G' := rst _ _ F0 _ _ F0 (Same.step sm2) (fun _ _ f => f) r'
  refine hb X W ok ea σ3 H2 G' fps3 o _ E3 hbo' ?_
  cases o with
  | nx e => exact fun σ4 H4 G4 fps4 a4 p4 => ⟨e, G4, fps4, a3.nextS a4, p3.trans p4, rst _ _ _ _ _ _ a4.S E3.gf r3, hrest⟩
  | cnt e => exact fun σ4 H4 G4 fps4 a4 p4 => ⟨e, G4, fps4, a3.nextS a4, p3.trans p4, rst _ _ _ _ _ _ a4.S E3.gf r3, hrest⟩
  | brk e =>
    have hrest : out = .nx e := hrest
    subst hrest
    exact fun σ4 H4 G4 fps4 a4 p4 => hq σ4 H4 G4 fps4 (a3.nextS a4) (p3.trans p4)
  | ret v e =>
    have hrest : out = .ret v e := hrest
    subst hrest
    exact fun u σ4 H4 G4 fps4 fpt4 a4 p4 r4 => hq u σ4 H4 G4 fps4 fpt4 (a3.nextS a4) (p3.trans p4) r4
  | exc v e =>
    have hrest : out = .exc v e := hrest
    subst hrest
    exact fun cls d σ4 H4 G4 fps4 a4 p4 x4 => hq cls d σ4 H4 G4 fps4 (a3.nextS a4) (p3.trans p4) x4
theorem ss_while {t : CB} {body : CSs} {x : Expr} {b : List Stmt} {p : Pos} (ht : SB c N sc fn x t) (hb : SSs c N pn sc fn b body) : SS c N pn sc fn (.While x b [] p) (.while_ t body) := by
  intro X W ok env σ H G fps out D E he hq
  simp only [evalS_while] at he
  refine tS_of (ps_while ok.po (ptS X x) (pssS X b)) ?_
  refine ⟨fun m σ' H' => ∃ env' G' fps', Aft c.K σ' H G fps env' H' G' fps' [] ∧ Pin pn σ σ' ∧ whileL (evalT c.Γ t) (evalSs c.Γ pn body) m env' = some out, ⟨_, env, G, fps, Aft.refl E, Pin.refl, he⟩, ?_⟩
  rintro m σ' H' ⟨env', G', fps', a', p', hw⟩
  cases m with
  | zero => cases hw
  | succ m =>
    unfold whileL at hw
    rcases sbnd_ways hw with ⟨b1, env1, e1, hw⟩ | ⟨y, env1, e1, rfl⟩
    rotate_left
    · exact ht X W ok.ok env' σ' H' G' fps' _ _ a'.E e1 fun cls d H1 G1 fps1 a1 x1 => hq cls d σ' H1 G1 fps1 (a'.nextS a1) p' x1
    refine ht X W ok.ok env' σ' H' G' fps' _ _ a'.E e1 fun H1 G1 fps1 a1 s1 => ?_
    cases b1 with
    | false =>
      rw [if_neg Bool.false_ne_true] at hw ⊢
      cases hw
      exact hq σ' H1 G1 fps1 (a'.nextS a1) p'
    | true =>
      rw [if_pos rfl] at hw ⊢
      have aa := a'.nextS a1
      refine ⟨fun σ2 H2 => ∃ env' G' fps', Aft c.K σ2 H G fps env' H2 G' fps' [] ∧ Pin pn σ σ2 ∧ whileL (evalT c.Γ t) (evalSs c.Γ pn body) m env' = some out, fun σ2 H2 n2 => ⟨m, Nat.lt_succ_self m, n2⟩, ?_⟩
      cases q : evalSs c.Γ pn body env1 with
      | none => rw [q] at hw; cases hw
      | some o =>
        rw [q] at hw
        refine hb X W ok env1 σ' H1 G1 fps1 o _ aa.E q ?_
        cases o with
        | nx e => exact fun σ4 H4 G4 fps4 a4 p4 => ⟨e, G4, fps4, aa.nextS a4, p'.trans p4, hw⟩
        | cnt e => exact fun σ4 H4 G4 fps4 a4 p4 => ⟨e, G4, fps4, aa.nextS a4, p'.trans p4, hw⟩
        | brk e =>
          cases hw
          exact fun σ4 H4 G4 fps4 a4 p4 => hq σ4 H4 G4 fps4 (aa.nextS a4) (p'.trans p4)
        | ret v e =>
          cases hw
          exact fun u σ4 H4 G4 fps4 fpt4 a4 p4 r4 => hq u σ4 H4 G4 fps4 fpt4 (aa.nextS a4) (p'.trans p4) r4
        | exc v e =>
          cases hw
          exact fun cls d σ4 H4 G4 fps4 a4 p4 x4 => hq cls d σ4 H4 G4 fps4 (aa.nextS a4) (p'.trans p4) x4
end
end NW
end
section
set_option linter.all false
set_option maxRecDepth 100000
set_option maxHeartbeats 2000000
/-! NWy: raise, try .. except X as e -/
namespace NW
open PySem L2 PyProof.Rows
theorem scalar_rp {K : PySem.W.Frag} {H : Hp} {G : Addr → Prop} {v : V} {d : D} (hs : scalar d = true) (r : Rp K H G v d) : ∀ H G, Rp K H G v d := by
  cases d <;> first | cases hs | skip
  all_goals (cases r; intro H2 G2; constructor)
section
variable {c : Ct} {N : List Str} {sc : Scope} {fn : Str → Bool} {pn : Nat}
theorem Aft.fresh {K : PySem.W.Frag} {σ : L2.St} {H0 H1 : Hp} {G0 G1 : Addr → Prop} {fps0 fps1 : Fs} {env1 : Env} {fpt : List Addr} (a : Aft K σ H0 G0 fps0 env1 H1 G1 fps1 fpt) {p : Addr} {o : HO} (h : H1 p = none) : Aft K σ H0 G0 fps0 env1 (upd H1 p o) G1 fps1 fpt :=
  ⟨a.E.same (same_upd h), a.S.trans (Same.stepF (same_upd h)), a.new, a.off⟩
theorem ss_raise {x : Str} {a : CE} {e : Expr} {p0 p1 p2 : Pos} (hg : glB sc x = true) (hst : isStar e = false) (h : SE c N sc fn e a) : SS c N pn sc fn (.Raise (some (.Call (.Name x p0) [e] [] p1)) none p2) (.raise x a) := by
  intro X W ok env σ H G fps out D E he hq
  simp only [evalS_raise] at he
  split at he
  rotate_left
  · cases he
  rename_i f hf
  obtain ⟨C, k, ex, hr⟩ := ok.ok.exs x f hf
  obtain ⟨⟨fI, fd, p, F1, iC, tI, hb⟩, T, mgx, db, no, xf, own⟩ := ex
  refine tS_of (ps_raise ok.ok.calm ok.ok.tk (pmk_oex T iC tI F1 hr hb .nil (passes_call (E := fun _ _ _ => False) ok.ok.tk fun _ _ _ _ z => z.elim) (ok.ok.gl hg) mgx (pa_cons (peS X e) pa_nil (star_ok hst [] X.env)) db (star_ok hst [] X.env) rfl)) ?_
  rcases sbnd_ways he with ⟨p1, env1, e1, he⟩ | ⟨y, env1, e1, rfl⟩
  · refine h X W ok.ok env σ H G fps _ _ E e1 fun v H1 G1 fps1 fpt1 a1 r1 s1 => ?_
    rcases sbnd_ways he with ⟨d, env2, e2, he⟩ | ⟨y, env2, e2, rfl⟩
    · split at he
      rotate_left
      · cases he
      rename_i hsc
      cases he
      obtain ⟨G2, fps2, a2, r2⟩ := frz_ok a1 r1 e2
      have := mk_read (H1 := H1) (C := C) (f := f) (y := v) (Q := fun cls d H' => W cls d σ H') fun dd hdd =>
        hq (.ref C) (some dd) σ _ G2 fps2 (a2.fresh hdd) Pin.refl ⟨C, f, d, v, dd, by rw [← ok.ok.eM]; exact mgx, rfl, rfl, scalar_rp hsc r2, rfl, upd_same⟩
      exact this
    · exact (frz_not e2).elim
  · exact h X W ok.ok env σ H G fps _ _ E e1 fun cls d H1 G1 fps1 a1 x1 => hq cls d σ H1 G1 fps1 a1 Pin.refl x1
theorem fld_star {n f : Str} {e : Expr} (h : mFld n f e = true) : isStar e = false := by
  cases e <;> first | rfl | cases h
theorem sw_V {n f : Str} {hv : HV} {v : Expr} {t : Option Expr} {l : Nat} {env : PySem.Env} (hm : mV n f hv v = true) : swapsWith v t l env = pure false := by
  cases hv <;> unfold mV at hm <;> simp only at hm
  · unfold mFld at hm
    split at hm
    · rfl
    · cases hm
  · split at hm
    · rfl
    · cases hm
  · split at hm
    · rfl
    · cases hm
/-- the value that a handler makes, where the exception is known -/
theorem hv_ok {X : Cx} {C a : Addr} {oe : Obj} {cls : Value} {dd : Option Addr} {pq : List (Addr × Obj)} {i : Nat} {n f : Str} {hv : HV} {e : Expr} {p : Addr} {v : V} {d : D} {σ : L2.St} {H H0 : Hp} {G G0 : Addr → Prop} {fps fps0 : Fs} {env : Env} {Q : VK}
    (T : XfC X.K C) (hno : PySem.W.findIn X.K (.ref C) f = some none) (hz : Zc cls dd oe) (hd : ∃ vs, oe.data = .fields vs) (hN : X.N[i]? = some n) (hl : X.env.scope.names.lookup n = some .local) (hnm : nmB n = true) (hm : mV n f hv e = true)
    (hs : (σ.set i (some (.ref a)))[i]? = some (some (V.ref a))) (hc : cls = .ref C) (hdd : dd = some p) (hp : H p = some (.xd [(f, v)])) (r : ∀ H G, Rp c.K H G v d)
    (A : Aft c.K σ H0 G0 fps0 env H G fps [])
    (q : ∀ u H' fpt, Aft c.K σ H0 G0 fps0 env H' G fps fpt → Ow c.K H' G (hvO hv d) u fpt → Q u H') : tE (X.suite a ((a, oe) :: pq)) e (σ.set i (some (.ref a))) H Q := by
  obtain ⟨nm1, nm2⟩ : (n == ("__debug__" : Str)) = false ∧ (n == ("__classdict__" : Str)) = false := by
    unfold nmB at hnm
    simpa using hnm
  have fld : ∀ {e : Expr}, mFld n f e = true → PE (X.suite a ((a, oe) :: pq)) e (tXf a cls dd C f (tVar i)) := fun {e} h => by
    unfold mFld at h
    split at h
    · simp only [Bool.and_eq_true, decide_eq_true_eq] at h
      obtain ⟨rfl, rfl⟩ := h
      exact pe_xf T hno hz hd (pe_var hN (.inl hl) nm1 nm2)
    · cases h
  have rd : ∀ {Q : VK}, Q v H → tXf a cls dd C f (tVar i) (σ.set i (some (.ref a))) H Q := fun {Q} hq =>
    ⟨.ref a, hs, rfl, hc, p, [(f, v)], v, hdd, hp, by simp, hq⟩
  cases hv with
  | fld =>
    exact tE_of (fld hm) (rd (q v H [] A ⟨rfl, r _ _⟩))
  | lstf =>
    unfold mV at hm
    simp only at hm
    split at hm
    · rename_i x pp
      refine tE_of (pe_lst (pa_cons (fld hm) pa_nil (star_ok (fld_star hm) [] _))) (rd ?_)
      refine ⟨by rw [sizeLine_eq]; simp, fun b hb => ?_⟩
      have nG : ¬ G b := fun g => by obtain ⟨u, e⟩ := A.E.gh b g; rw [hb] at e; cases e
      have nF : ¬ FF fps b := fun z => by obtain ⟨_, u, e⟩ := A.E.held z; rw [hb] at e; cases e
      have A' := A.fresh (o := .lst [v]) hb
      refine q _ _ [b] ⟨A'.E, A'.S, fun x hx => ?_, fun x hx => ?_⟩ ⟨b, [v], rfl, rfl, nG, upd_same, .cons (r _ _) .nil⟩
      · have : x = b := by simpa using hx
        subst this
        exact (A.S.none_of hb).symm
      · have : x = b := by simpa using hx
        subst this
        exact nF
    · cases hm
  | tupf w =>
    unfold mV at hm
    simp only at hm
    split at hm
    · rename_i u j1 j2 x k1 k2
      simp only [Bool.and_eq_true, decide_eq_true_eq] at hm
      obtain ⟨rfl, hm⟩ := hm
      refine tE_of (pe_tup (pa_cons pe_str (pa_cons (fld hm) pa_nil (star_ok (fld_star hm) [] _)))) (rd ?_)
      refine ⟨by rw [sizeLine_eq]; simp, fun b hb => ?_⟩
      have A' := A.fresh (o := .tup [.str u, v]) hb
      refine q _ _ [] ⟨A'.E, A'.S, (fun b hb => nomatch hb), (fun b hb => nomatch hb)⟩ ⟨rfl, ?_⟩
      exact .tup (SqT.of (by rw [HG_tup]; exact upd_same)) (.cons (.str u) (.cons (r _ _) .nil))
    · cases hm
theorem CtxOk.tr {X : Cx} {W W' : WX} (ok : CtxOk c X W N sc fn) (pq : List (Addr × Obj)) (xe : Value → Shared → Prop) (tk : Takes (X.tr pq xe) W') : CtxOk c (X.tr pq xe) W' N sc fn where
  eK := ok.eK
  eM := ok.eM
  eN := ok.eN
  eS := ok.eS
  eF := ok.eF
  nd := ok.nd
  calm := ok.calm
  tk := tk
  rm := ok.rm
  fns := ok.fns
  exs := ok.exs
  blt := ok.blt
  glob := ok.glob
theorem put_out {K : PySem.W.Frag} {σ : L2.St} {H0 H : Hp} {G0 G : Addr → Prop} {fps0 fps : Fs} {env : Env} {fpt : List Addr} {o : O} {u : V} {j : Nat} (A : Aft K σ H0 G0 fps0 env H G fps fpt) (r : Ow K H G o u fpt) :
    ∃ fps', Aft K (σ.set j (some u)) H0 G0 fps0 (env.set j (some o)) H G fps' [] := by
  obtain ⟨fps', E', hf⟩ := A.E.put (i := j) r A.off
  refine ⟨fps', E', ⟨A.S.keep, A.S.tups, A.S.frzs, A.S.gsub, A.S.gnew, fun b hb => ?_⟩, (fun b hb => nomatch hb), (fun b hb => nomatch hb)⟩
  rcases hf b hb with z | z
  · exact A.S.fnew b z
  · exact A.new b z
theorem ss_try {body : CSs} {x n f : Str} {i : Nat} {hv : HV} {k : Option Nat} {b : List Stmt} {h : Stmt} {np ps1 ps2 : Pos} (hg : glB sc x = true) (hi : N[i]? = some n) (hl : sc.names.lookup n = some .local) (hnm : nmB n = true) (hb : SSs c N pn sc fn b body) (hh : mH N sc fn n f hv k h = true) :
    SS c N pn sc fn (.Try b [.ExceptHandler (some (.Name x np)) (some n) [h] ps1] [] [] ps2) (.tryx body x i f hv k) := by
  intro X W ok env σ H G fps out D E he hq
  simp only [evalS_tryx] at he
  split at he
  rotate_left
  · cases he
  rename_i hpx
  obtain ⟨hpn, hx⟩ := hpx
  obtain ⟨C, kk, ex, hr⟩ := ok.ok.exs x f hx
  have hN : X.N[i]? = some n := by rw [ok.ok.eN]; exact hi
  have hL : X.env.scope.names.lookup n = some .local := by rw [ok.ok.eS]; exact hl
  have hiN : i < X.N.length := (List.getElem?_eq_some_iff.mp hN).1
  refine tS_of (ps_try_as (X := X) (i := i) (n := n) (x := x) (c := .ref C) (Wout := W) (b₀ := h) (suite := []) (body := b)
    (tb := fun W' D σ H => ∀ pq xe, Takes (X.tr pq xe) W' → PassesOwn (model X.prog X.w) X.A X.env xe → tSs (X.tr pq xe) b D σ H)
    (ts := fun a cls d D σ H => ∀ oe pq, Zc cls d oe → (∃ vs, oe.data = .fields vs) → tSs (X.suite a ((a, oe) :: pq)) [h] D σ H)
    ok.st ok.fr (by rw [ok.ok.eN]; exact ok.ok.nd) hN hL ⟨ok.ok.gl hg, ex.db, .inl ex.mgx⟩ ok.ok.tk
    (fun W' pq xe tk po => ⟨fun pins s σ H D I h => (pssS _ b).run pins s σ H D I (h pq xe tk po)⟩)
    (fun a oe cls d pq z1 z2 => ⟨fun pins s σ H D I h' => (pssS _ [h]).run pins s σ H D I (h' oe pq z1 z2)⟩)) ?_
  intro pq xe tk po
  cases q : evalSs c.Γ pn body env with
  | none => rw [q] at he; cases he
  | some out0 =>
    rw [q] at he
    refine hb (X.tr pq xe) _ ⟨ok.ok.tr pq xe tk, po, ok.kd, ok.st, ok.fr⟩ env σ H G fps out0 D E q ?_
    cases out0 with
    | nx e => cases he; exact hq
    | ret o e => cases he; exact hq
    | brk e => cases he; exact hq
    | cnt e => cases he; exact hq
    | exc y e =>
      intro cls d σ' H' G' fps' A p xr
      obtain ⟨C', f', d', v, a', m1, rfl, m2, m3, rfl, m4⟩ := xr
      simp only [tryO] at he
      split at he
      rotate_left
      · cases he
      rename_i hy
      obtain ⟨hy1, hy2, hy3⟩ := hy
      rw [hy1, ← ok.ok.eM, ex.mgx] at m1
      cases m1
      split at he
      rotate_left
      · cases he
      rename_i g d2 hfl
      rw [m2] at hfl
      cases hfl
      split at he
      rotate_left
      · cases he
      rename_i hgf
      subst hgf
      refine ⟨true, ex.own, fun _ a ha oe pq' z1 z2 => ?_, fun z => nomatch z⟩
      have hlen : i < σ'.length := by
        have := A.E.len
        omega
      have hs : ((σ'.set i none).set i (some (.ref a)))[i]? = some (some (V.ref a)) := List.getElem?_set_self (by rw [List.length_set]; exact hlen)
      have hst : σ'.set i (some (.ref a)) = (σ'.set i none).set i (some (.ref a)) := (List.set_set ..).symm
      have A2 : Aft c.K (σ'.set i none) H G fps (wipeE e [i]) H' G' fps' [] := by
        have z := A.E.wipe (own := [i]) (by simp [hy2])
        exact ⟨z, A.S, A.new, A.off⟩
      have p2 : Pin pn σ (σ'.set i none) := fun j hj => by
        rw [List.getElem?_set_ne (by omega)]
        exact p j hj
      have val : ∀ {e' : Expr} {Q : VK}, mV n f' hv e' = true → (∀ u H'' fpt, Aft c.K (σ'.set i none) H G fps (wipeE e [i]) H'' G' fps' fpt → Ow c.K H'' G' (hvO hv d') u fpt → Q u H'') → tE (X.suite a ((a, oe) :: pq')) e' (σ'.set i (some (.ref a))) H' Q := fun {e' Q} hm hQ => by
        rw [hst]
        exact hv_ok ex.xf ex.no z1 z2 hN hL hnm hm hs rfl rfl m4 m3 A2 hQ
      cases k with
      | none =>
        unfold mH at hh
        simp only at hh
        split at hh
        · rename_i v pp
          simp only [handO] at he
          cases he
          exact tSs_of (pss_cons (ps_ret (peS (X.suite a ((a, oe) :: pq')) v)) pss_nil) (val hh fun u H'' fpt A3 r3 => hq u _ H'' G' fps' fpt A3 p2 r3)
        · cases hh
      | some j =>
        unfold mH at hh
        simp only at hh
        split at hh
        · rename_i z pz v pp
          simp only [handO] at he
          split at he
          rotate_left
          · cases he
          rename_i hj
          cases he
          simp only [Bool.and_eq_true, decide_eq_true_eq] at hh
          obtain ⟨⟨h1, h2⟩, h3⟩ := hh
          have sw : swapsWith v (some (.Name z pz)) pp.line X.env = pure false := sw_V h3
          refine tSs_of (pss_cons (ps_set (X := X.suite a ((a, oe) :: pq')) (i := j) (show X.N.Nodup by rw [ok.ok.eN]; exact ok.ok.nd) (show X.N[j]? = some z by rw [ok.ok.eN]; exact h1) (.inl (show X.env.scope.names.lookup z = some .local by rw [ok.ok.eS]; exact h2)) (peS (X.suite a ((a, oe) :: pq')) v) sw (.inr (show X.env.scope.names.lookup z = some .local by rw [ok.ok.eS]; exact h2))) pss_nil) (val h3 fun u H'' fpt A3 r3 => ?_)
          obtain ⟨fps4, A4⟩ := put_out (j := j) A3 r3
          have e4 : ((σ'.set i (some (V.ref a))).set j (some u)).set i none = (σ'.set i none).set j (some u) := by
            rw [List.set_comm (some (V.ref a)) (some u) (Ne.symm hj.2), List.set_set, List.set_comm none (some u) (Ne.symm hj.2)]
          show D.nx (((σ'.set i (some (V.ref a))).set j (some u)).set i none) H''
          rw [e4]
          refine hq _ H'' G' fps4 A4 (p2.trans (Pin.set hj.1))
        · cases hh
end
end NW
end
section
set_option linter.all false
set_option maxRecDepth 100000
set_option maxHeartbeats 2000000
/-! NWr: all statements; defs -/
namespace NW
open PySem L2 PyProof.Rows
section
variable {c : Ct} {N : List Str} {pn : Nat}
theorem mT_name {sc : Scope} {fn : Str → Bool} {i : Nat} {tg : Expr} (h : mT N sc fn (.name i) tg = true) : ∃ y py, tg = .Name y py := by
  cases tg <;> first | exact ⟨_, _, rfl⟩ | cases h
theorem mT_tup {sc : Scope} {fn : Str → Bool} {i : List Nat} {tg : Expr} (h : mT N sc fn (.tup i) tg = true) : ∃ es k p, tg = .Tuple es k p := by
  cases tg <;> first | exact ⟨_, _, _, rfl⟩ | cases h
mutual
theorem snd_S : ∀ (a : CS) (sc : Scope) (fn : Str → Bool) (s : Stmt), mS N a sc fn s = true → SS c N pn sc fn s a
  | .asg t e, sc, fn, s, h => by
    unfold mS at h
    split at h
    · obtain ⟨h, h3⟩ := one3 (α := Nat) h
      obtain ⟨h1, h2⟩ := one3 (α := Nat) h
      cases t with
      | name i =>
        obtain ⟨y, py, rfl⟩ := mT_name h1
        exact ss_name h1 h2 (by simpa using h3)
      | tup l =>
        obtain ⟨es, kk, tp, rfl⟩ := mT_tup h1
        exact ss_tup h1 (by simpa using h3) (snd_E e sc fn _ h2)
    · cases h
  | .par l es, sc, fn, s, h => by
    unfold mS at h
    split at h
    · simp only [Bool.and_eq_true, decide_eq_true_eq] at h
      obtain ⟨⟨⟨⟨h1, h2⟩, h3⟩, h4⟩, h5⟩ := h
      exact ss_par h1 h2 h3 h4 h5
    · cases h
  | .aug i k e, sc, fn, s, h => by
    unfold mS at h
    split at h
    · obtain ⟨h, h4⟩ := one3 (α := Nat) h
      obtain ⟨h, h3⟩ := one3 (α := Nat) h
      refine ss_aug ?_ (by unfold mT; exact h) (snd_E e sc fn _ h3)
      split at h4
      · exact .inl ⟨rfl, rfl⟩
      · exact .inr ⟨rfl, rfl⟩
      · cases h4
    · cases h
  | .put i k e, sc, fn, s, h => by
    unfold mS at h
    split at h
    · obtain ⟨h, h4⟩ := one3 (α := Nat) h
      obtain ⟨h, h3⟩ := one3 (α := Nat) h
      obtain ⟨h1, h2⟩ := one3 (α := Nat) h
      exact ss_put h1 (by simpa using h2) (snd_E k sc fn _ h3) (snd_E e sc fn _ h4)
    · cases h
  | .putf i f k e, sc, fn, s, h => by
    unfold mS at h
    split at h
    · obtain ⟨h, h4⟩ := one3 (α := Nat) h
      obtain ⟨h, h3⟩ := one3 (α := Nat) h
      obtain ⟨h, h2⟩ := one3 (α := Nat) h
      obtain ⟨h1, h0⟩ := one3 (α := Nat) h
      rw [decide_eq_true_eq] at h0
      subst h0
      exact ss_putf h1 (by simpa using h2) (snd_E k sc fn _ h3) (snd_E e sc fn _ h4)
    · cases h
  | .append i e, sc, fn, s, h => by
    unfold mS at h
    split at h
    · obtain ⟨h, h4⟩ := one3 (α := Nat) h
      obtain ⟨h, h3⟩ := one3 (α := Nat) h
      obtain ⟨h, h2⟩ := one3 (α := Nat) h
      obtain ⟨h1, h0⟩ := one3 (α := Nat) h
      rw [decide_eq_true_eq] at h0
      subst h0
      exact ss_append h1 h2 (by simpa using h3) (snd_E e sc fn _ h4)
    · cases h
  | .extend i e, sc, fn, s, h => by
    unfold mS at h
    split at h
    · obtain ⟨h, h4⟩ := one3 (α := Nat) h
      obtain ⟨h, h3⟩ := one3 (α := Nat) h
      obtain ⟨h, h2⟩ := one3 (α := Nat) h
      obtain ⟨h1, h0⟩ := one3 (α := Nat) h
      rw [decide_eq_true_eq] at h0
      subst h0
      exact ss_extend h1 h2 (by simpa using h3) (snd_E e sc fn _ h4)
    · cases h
  | .expr e, sc, fn, s, h => by
    unfold mS at h
    split at h
    · obtain ⟨h1, h2⟩ := one3 (α := Nat) h
      exact ss_expr (by simpa using h2) (snd_E e sc fn _ h1)
    · cases h
  | .ret e, sc, fn, s, h => by
    unfold mS at h
    split at h
    · exact ss_ret (snd_E e sc fn _ h)
    · cases h
  | .retN, sc, fn, s, h => by
    unfold mS at h
    split at h
    · exact ss_retN
    · cases h
  | .ite t a b, sc, fn, s, h => by
    unfold mS at h
    split at h
    · obtain ⟨h, h3⟩ := one3 (α := Nat) h
      obtain ⟨h1, h2⟩ := one3 (α := Nat) h
      exact ss_ite (snd_B t sc fn _ h1) (snd_Ss a sc fn _ h2) (snd_Ss b sc fn _ h3)
    · cases h
  | .for_ t src body, sc, fn, s, h => by
    unfold mS at h
    split at h
    · obtain ⟨h, h4⟩ := one3 (α := Nat) h
      obtain ⟨h, h3⟩ := one3 (α := Nat) h
      obtain ⟨h1, h2⟩ := one3 (α := Nat) h
      exact ss_for (by simpa using h1) (snd_I src sc fn _ _ h2) h3 (snd_Ss body sc fn _ h4)
    · cases h
  | .while_ t body, sc, fn, s, h => by
    unfold mS at h
    split at h
    · obtain ⟨h1, h2⟩ := one3 (α := Nat) h
      exact ss_while (snd_B t sc fn _ h1) (snd_Ss body sc fn _ h2)
    · cases h
  | .raise x a, sc, fn, s, h => by
    unfold mS at h
    split at h
    · obtain ⟨h, h4⟩ := one3 (α := Nat) h
      obtain ⟨h, h3⟩ := one3 (α := Nat) h
      obtain ⟨h1, h2⟩ := one3 (α := Nat) h
      rw [decide_eq_true_eq] at h1
      subst h1
      exact ss_raise h2 (by simpa using h3) (snd_E a sc fn _ h4)
    · cases h
  | .tryx body x i f hv k, sc, fn, s, h => by
    unfold mS at h
    split at h
    · obtain ⟨h, h7⟩ := one3 (α := Nat) h
      obtain ⟨h, h6⟩ := one3 (α := Nat) h
      obtain ⟨h, h5⟩ := one3 (α := Nat) h
      obtain ⟨h, h4⟩ := one3 (α := Nat) h
      obtain ⟨h, h3⟩ := one3 (α := Nat) h
      obtain ⟨h1, h2⟩ := one3 (α := Nat) h
      rw [decide_eq_true_eq] at h1 h3 h4
      subst h1
      exact ss_try h2 h3 h4 h5 (snd_Ss body sc fn _ h6) h7
    · cases h
  | .never, sc, fn, s, h => ss_never
  | .pass, sc, fn, s, h => by
    unfold mS at h
    split at h
    · exact ss_pass
    · cases h
  | .brk, sc, fn, s, h => by
    unfold mS at h
    split at h
    · exact ss_brk
    · cases h
  | .cnt, sc, fn, s, h => by
    unfold mS at h
    split at h
    · exact ss_cnt
    · cases h
theorem snd_Ss : ∀ (a : CSs) (sc : Scope) (fn : Str → Bool) (l : List Stmt), mSs N a sc fn l = true → SSs c N pn sc fn l a
  | .nil, sc, fn, l, h => by
    unfold mSs at h
    split at h
    · exact sss_nil
    · cases h
  | .cons a as, sc, fn, l, h => by
    unfold mSs at h
    split at h
    · obtain ⟨h1, h2⟩ := one3 (α := Nat) h
      exact sss_cons (snd_S a sc fn _ h1) (snd_Ss as sc fn _ h2)
    · cases h
end
end

/-! ### defs -/
/-- what may be called, and how deep it goes -/
structure Lv (c : Ct) (P : Program) (w : World) (base : Heap) (k : Nat) : Prop where
  fns : ∀ f m, c.Γ.fn f = some m → ∃ (fa : Addr) (fd : FuncData) (ps : List Str) (j : Nat), FnG P w c.K c.mg base j fa fd ps (spOf c m) ∧ j ≤ k ∧ c.mg f = some (.ref fa) ∧ PySem.W.keepIn c.K (.ref fa) = true ∧ Binds c.K fd ps [] ∧ (f == ("__debug__" : Str)) = false
  exs : ∀ x f, c.Γ.ex x = some f → ∃ (C : Addr) (j : Nat), ExcF P w c.K c.mg base j x f C ∧ j + 1 ≤ k
structure Mod (c : Ct) : Prop where
  blt : ∀ x ∈ bltNames, c.mg x = none
  glob : ∀ x d, c.Γ.const x = some d → (x == ("__debug__" : Str)) = false ∧ ∃ u v, c.mg x = some u ∧ RelV v u ∧ ∀ H G, Rp c.K H G v d
theorem slot_start {n : Nat} {os : List O} {i : Nat} {o : O} (h : slot (startE n os) i = some o) : os[i]? = some o := by
  unfold slot startE at h
  by_cases hi : i < os.length
  · rw [List.getElem?_append_left (by rw [List.length_map]; exact hi), List.getElem?_map, List.getElem?_eq_getElem hi] at h
    rw [List.getElem?_eq_getElem hi]
    exact h
  · rw [List.getElem?_append_right (by rw [List.length_map]; omega), List.getElem?_replicate] at h
    split at h <;> cases h
theorem start_get {N : List Str} {vs : List V} {i : Nat} {v : V} (h : vs[i]? = some v) : (L2.start N vs)[i]? = some (some v) := by
  unfold L2.start
  have hi : i < vs.length := (List.getElem?_eq_some_iff.mp h).1
  rw [List.getElem?_append_left (by rw [List.length_map]; exact hi), List.getElem?_map, h]
  rfl
theorem start_len {N : List Str} {vs : List V} {os : List O} (h : vs.length = os.length) : (startE N.length os).length = (L2.start N vs).length := by
  unfold startE L2.start
  rw [List.length_append, List.length_append, List.length_map, List.length_map, List.length_replicate, List.length_replicate, h]
def fps0 : Fs := fun _ => []
theorem start_fz {K : PySem.W.Frag} {N : List Str} {vs : List V} {ds : List D} {H : Hp} {G : Addr → Prop} (gh : GHeld H G) (r : RpA K H G vs ds) : EnvR K (startE N.length (ds.map .fz)) (L2.start N vs) H G fps0 := by
  refine ⟨gh, start_len (by rw [List.length_map, dpAll_length r]), fun i o h => ?_, fun _ _ => rfl, fun i j a ha => nomatch ha⟩
  have h := slot_start h
  rw [List.getElem?_map] at h
  cases hd : ds[i]? with
  | none => rw [hd] at h; cases h
  | some d =>
    rw [hd] at h
    cases h
    obtain ⟨v, hv, rv⟩ := dpAll_get r hd
    exact ⟨v, start_get hv, rfl, rv⟩
theorem ff0 {b : Addr} (h : FF fps0 b) : False := by obtain ⟨_, h⟩ := h; cases h
theorem step_f0 {H H' : Hp} {G G' F' : Addr → Prop} (s : Step H G (FF fps0) H' G' F') : Step H G F0 H' G' F0 :=
  ⟨fun b u e _ => s.keep b u e fun f => ff0 f, s.tups, s.frzs, s.gsub, fun b g => (s.gnew b g).elim .inl fun z => z.elim (fun f => (ff0 f).elim) fun z => .inr (.inr z), fun b f => f.elim⟩
section
variable {c : Ct} {P : Program} {w : World} {base : Heap} {k : Nat} {N ps : List Str}
theorem ctx_s (L : Lv c P w base k) (M : Mod c) {qual : Str} {st : Stmt} (S : FnScope N ps (defScope st)) (f : Addr) (cdv : Value) (A : Around) (outer : List PySem.Env) (s : Shared) (H : Hp) (E : XK) (hr : RoomG k (A.deeper (envOfC qual (defScope st) s.heap.objs.size f cdv))) :
    CtxS c (cxOf (L2.CX P w) P w c.K c.mg base N qual (defScope st) f cdv A outer s H E) (fun cls d _ H => E cls d H) N (defScope st) (fun _ => true) where
  ok := { eK := rfl, eM := rfl, eN := rfl, eS := rfl, eF := rfl, nd := S.nd, calm := rfl, tk := takes_of rfl rfl rfl rfl, rm := hr.mono (Nat.zero_le _), fns := fun f m h => by
            obtain ⟨fa, fd, ps, j, F, hj, h1, h2, h3, h4⟩ := L.fns f m h
            exact ⟨fa, fd, ps, j, F, hr.mono hj, h1, h2, h3, h4⟩
          exs := fun x f h => by
            obtain ⟨C, j, ex, hj⟩ := L.exs x f h
            exact ⟨C, j, ex, hr.rm.mono hj⟩
          blt := M.blt, glob := M.glob }
  po := passes_of rfl
  kd := S.kind
  st := rfl
  fr := rfl
variable {x qual : Str} {st : Stmt} {f : Addr} {fd : FuncData} {body : CSs}
theorem fn_pure {m : List D → Option (Except Exn D)} (F : Fun c.K x qual st f fd) (S : FnScope N ps (defScope st)) (L : Lv c P w base k) (M : Mod c) (hm : mSs N body (defScope st) (fun _ => true) (defBody st) = true)
    (hev : ∀ ds r, ds.length = ps.length → m ds = some r → runPure c.Γ N.length body ds = some r) : FnG P w c.K c.mg base (k + 1) f fd ps (spPure c ps.length m) := by
  refine fnG_of F S (fun vs H Q E h => ?_) (fun cdv A outer s H vs Q E hr h => ⟨_, pssS _ _, ?_⟩)
  · obtain ⟨G, ds, r, gh, rA, hl, _⟩ := h
    rw [dpAll_length rA, hl]
  · obtain ⟨G, ds, r, gh, rA, hl, hmd, post⟩ := h
    have cs := ctx_s (qual := qual) L M S f cdv A outer s H E hr
    have he := hev ds r hl hmd
    unfold runPure at he
    cases q : evalSs c.Γ 0 body (startE N.length (ds.map .fz)) with
    | none => rw [q] at he; cases he
    | some out =>
      rw [q] at he
      refine snd_Ss (pn := 0) body _ _ _ hm _ _ cs _ _ H G fps0 out _ (start_fz gh rA) q ?_
      cases out with
      | nx e =>
        cases he
        exact fun σ' H' G' fps' a p => post .non H' G' (step_f0 a.S) a.E.gh .non
      | ret o e =>
        have he' : (match o.flat with
          | some d => some (Except.ok d)
          | none => none) = some r := he
        split at he'
        · rename_i d hd
          cases he'
          intro v σ' H' G' fps' fpt a p ro
          obtain ⟨G2, a2, r2⟩ := freeze_ok a ro hd
          exact post v H' G2 (step_f0 a2.S) a2.E.gh r2
        · cases he'
      | brk e => cases he
      | cnt e => cases he
      | exc y e =>
        cases he
        exact fun cls d σ' H' G' fps' a p x => post cls d H' G' (step_f0 a.S) a.E.gh x
theorem fn_mk {m : List D → Option O} (F : Fun c.K x qual st f fd) (S : FnScope N ps (defScope st)) (L : Lv c P w base k) (M : Mod c) (hm : mSs N body (defScope st) (fun _ => true) (defBody st) = true)
    (hev : ∀ ds r, ds.length = ps.length → m ds = some r → runMk c.Γ N.length body ds = some r) : FnG P w c.K c.mg base (k + 1) f fd ps (spMk c ps.length m) := by
  refine fnG_of F S (fun vs H Q E h => ?_) (fun cdv A outer s H vs Q E hr h => ⟨_, pssS _ _, ?_⟩)
  · obtain ⟨G, ds, r, gh, rA, hl, _⟩ := h
    rw [dpAll_length rA, hl]
  · obtain ⟨G, ds, r, gh, rA, hl, hmd, post⟩ := h
    have cs := ctx_s (qual := qual) L M S f cdv A outer s H E hr
    have he := hev ds r hl hmd
    unfold runMk at he
    cases q : evalSs c.Γ 0 body (startE N.length (ds.map .fz)) with
    | none => rw [q] at he; cases he
    | some out =>
      rw [q] at he
      refine snd_Ss (pn := 0) body _ _ _ hm _ _ cs _ _ H G fps0 out _ (start_fz gh rA) q ?_
      cases out with
      | nx e =>
        cases he
        exact fun σ' H' G' fps' a p => post .non H' G' [] (step_f0 a.S) a.E.gh ⟨rfl, .non⟩ (fun b hb => nomatch hb)
      | ret o e =>
        cases he
        intro v σ' H' G' fps' fpt a p ro
        exact post v H' G' fpt (step_f0 a.S) a.E.gh ro fun b hb => (a.new b hb).elim (fun f => (ff0 f).elim) id
      | brk e => cases he
      | cnt e => cases he
      | exc y e => cases he
def fpsI (fp : List Addr) : Fs := fun i => if i = 0 then fp else []
theorem ffI {fp : List Addr} {b : Addr} : FF (fpsI fp) b ↔ b ∈ fp := by
  constructor
  · rintro ⟨i, h⟩
    unfold fpsI at h
    split at h
    · exact h
    · cases h
  · exact fun h => ⟨0, by unfold fpsI; rw [if_pos rfl]; exact h⟩
theorem start_io {K : PySem.W.Frag} {N : List Str} {vs : List V} {ds : List D} {H : Hp} {G : Addr → Prop} {o : O} {v : V} {fp : List Addr} (gh : GHeld H G) (ro : Ow K H G o v fp) (r : RpA K H G vs ds) (hN : 0 < N.length) : EnvR K (startE N.length (o :: ds.map .fz)) (L2.start N (v :: vs)) H G (fpsI fp) := by
  refine ⟨gh, start_len (by rw [List.length_cons, List.length_cons, List.length_map, dpAll_length r]), fun i o' h => ?_, fun i h => ?_, fun i j a ha hb => ?_⟩
  · have h := slot_start h
    cases i with
    | zero =>
      cases h
      exact ⟨v, start_get rfl, by unfold fpsI; rw [if_pos rfl]; exact ro⟩
    | succ i =>
      rw [List.getElem?_cons_succ, List.getElem?_map] at h
      cases hd : ds[i]? with
      | none => rw [hd] at h; cases h
      | some d =>
        rw [hd] at h
        cases h
        obtain ⟨u, hu, ru⟩ := dpAll_get r hd
        exact ⟨u, start_get (by rw [List.getElem?_cons_succ]; exact hu), by unfold fpsI; rw [if_neg (Nat.succ_ne_zero _)], ru⟩
  · cases i with
    | zero =>
      exfalso
      unfold slot startE at h
      cases h
    | succ i => unfold fpsI; rw [if_neg (Nat.succ_ne_zero _)]
  · unfold fpsI at ha hb
    split at ha
    · split at hb
      · rename_i e1 e2; rw [e1, e2]
      · cases hb
    · cases ha
theorem fn_io {n : Nat} {m : O → List D → Option (Except Exn D × O)} (F : Fun c.K x qual st f fd) (S : FnScope N ps (defScope st)) (L : Lv c P w base k) (M : Mod c) (hm : mSs N body (defScope st) (fun _ => true) (defBody st) = true) (hn : ps.length = n + 1)
    (hev : ∀ o ds r, ds.length = n → m o ds = some r → runIo c.Γ N.length body o ds = some r) : FnG P w c.K c.mg base (k + 1) f fd ps (spIo c n m) := by
  refine fnG_of F S (fun vs H Q E h => ?_) (fun cdv A outer s H vs Q E hr h => ⟨_, pssS _ _, ?_⟩)
  · obtain ⟨G, o, o', v0, ws, fp, ds, r, gh, rfl, ro, rA, hl, _⟩ := h
    rw [List.length_cons, dpAll_length rA, hl, hn]
  · obtain ⟨G, o, o', v0, ws, fp, ds, r, gh, rfl, ro, rA, hl, hmd, post⟩ := h
    have cs := ctx_s (qual := qual) L M S f cdv A outer s H E hr
    have hN : 0 < N.length := by
      have := congrArg List.length S.pre
      rw [List.length_take] at this
      omega
    have he := hev o ds (r, o') hl hmd
    unfold runIo at he
    have h0 : (L2.start N (v0 :: ws))[0]? = some (some v0) := start_get rfl
    have lift : ∀ {H' : Hp} {G' : Addr → Prop} {fps' : Fs}, Step H G (FF (fpsI fp)) H' G' (FF fps') → Step H G (· ∈ fp) H' G' (· ∈ fps' 0) := fun {H' G' fps'} s =>
      ⟨fun b u e nf => s.keep b u e fun z => nf (ffI.mp z), s.tups, s.frzs, s.gsub, fun b g => (s.gnew b g).elim .inl fun z => z.elim (fun f => .inr (.inl (ffI.mp f))) fun z => .inr (.inr z), fun b hb => (s.fnew b ⟨0, hb⟩).elim (fun f => .inl (ffI.mp f)) .inr⟩
    cases q : evalSs c.Γ 1 body (startE N.length (o :: ds.map .fz)) with
    | none => rw [q] at he; cases he
    | some out =>
      rw [q] at he
      refine snd_Ss (pn := 1) body _ _ _ hm _ _ cs _ _ H G (fpsI fp) out _ (start_io gh ro rA hN) q ?_
      cases out with
      | nx e =>
        have he' : (match slot e 0 with
          | some o' => some (Except.ok PyData.none, o')
          | none => none) = some (r, o') := by
          rw [← he]
          show _ = (match some PyData.none, slot e 0 with
            | some d, some o' => some (Except.ok d, o')
            | _, _ => none)
          cases slot e 0 <;> rfl
        split at he'
        · rename_i o2 ho2
          cases he'
          intro σ' H' G' fps' a p
          obtain ⟨v', hv', ro'⟩ := a.E.rep 0 _ ho2
          rw [p 0 Nat.zero_lt_one, h0] at hv'
          cases hv'
          exact post .non H' G' (fps' 0) (lift a.S) a.E.gh ro' .non
        · cases he'
      | ret rv e =>
        have he' : (match rv.flat, slot e 0 with
          | some d, some o' => some (Except.ok d, o')
          | _, _ => none) = some (r, o') := he
        split at he'
        · rename_i d o2 hd ho2
          cases he'
          intro v σ' H' G' fps' fpt a p rr
          obtain ⟨G2, a2, r2⟩ := freeze_ok a rr hd
          obtain ⟨v', hv', ro'⟩ := a2.E.rep 0 _ ho2
          rw [p 0 Nat.zero_lt_one, h0] at hv'
          cases hv'
          exact post v H' G2 (fps' 0) (lift a2.S) a2.E.gh ro' r2
        · cases he'
      | brk e => cases he
      | cnt e => cases he
      | exc y e =>
        have he' : (match slot e 0 with
          | some o' => some (Except.error (α := D) y, o')
          | none => none) = some (r, o') := he
        split at he'
        · rename_i o2 ho2
          cases he'
          intro cls d σ' H' G' fps' a p x
          obtain ⟨v', hv', ro'⟩ := a.E.rep 0 _ ho2
          rw [p 0 Nat.zero_lt_one, h0] at hv'
          cases hv'
          exact post cls d H' G' (fps' 0) (lift a.S) a.E.gh ro' x
        · cases he'
end
end NW
end
section
set_option Elab.async false
set_option linter.all false
set_option maxRecDepth 100000
set_option maxHeartbeats 2000000
/-! NWs: the chain of defs, the law's end -/
namespace NW
open PySem L2 PyProof.Rows
/-- a def's meaning; an exception class has none -/
def fnOf : Option Mean → Option Mean
  | some (.exn _) => none
  | r => r
def exOf : Option Mean → Option Str
  | some (.exn f) => some f
  | _ => none
def Gof (cs : List (Str × D)) (l : List (Str × Mean)) : Gam := ⟨fun x => cs.lookup x, fun x => fnOf (l.lookup x), 1000, fun x => exOf (l.lookup x)⟩
def ctOf (K : PySem.W.Frag) (mg : Str → Option Value) (cs : List (Str × D)) (l : List (Str × Mean)) : Ct := ⟨K, mg, Gof cs l⟩
section
variable {K : PySem.W.Frag} {mg : Str → Option Value} {cs : List (Str × D)} {l : List (Str × Mean)} {P : Program} {w : World} {base : Heap} {k : Nat}
theorem Lv.nil : Lv (ctOf K mg cs []) P w base 0 := ⟨fun f m h => (by cases h), fun f m h => (by cases h)⟩
theorem Lv.add {x : Str} {m : Mean} {fa : Addr} {fd : FuncData} {ps : List Str} (L : Lv (ctOf K mg cs l) P w base k) (F : FnG P w K mg base (k + 1) fa fd ps (spOf (ctOf K mg cs l) m)) (h1 : mg x = some (.ref fa)) (h2 : PySem.W.keepIn K (.ref fa) = true) (h3 : Binds K fd ps []) (h4 : (x == ("__debug__" : Str)) = false) (h5 : exOf (some m) = none := by rfl) :
    Lv (ctOf K mg cs ((x, m) :: l)) P w base (k + 1) := by
  refine ⟨fun f m' h => ?_, fun z f h => ?_⟩
  · replace h : fnOf (((x, m) :: l).lookup f) = some m' := h
    rw [List.lookup_cons] at h
    cases hx : f == x with
    | true =>
      rw [hx] at h
      have hh : fnOf (some m) = some m' := h
      clear h
      have e := eq_of_beq hx
      subst e
      cases m
      case exn g => cases hh
      all_goals (cases hh; exact ⟨fa, fd, ps, k + 1, F, Nat.le_refl _, h1, h2, h3, h4⟩)
    | false =>
      rw [hx] at h
      obtain ⟨fa', fd', ps', j, F', hj, q⟩ := L.fns f m' h
      exact ⟨fa', fd', ps', j, F', Nat.le_succ_of_le hj, q⟩
  · have h : exOf (((x, m) :: l).lookup z) = some f := h
    rw [List.lookup_cons] at h
    cases hx : z == x with
    | true =>
      rw [hx] at h
      have h : exOf (some m) = some f := h
      rw [h5] at h
      cases h
    | false =>
      rw [hx] at h
      obtain ⟨C, j, ex, hj⟩ := L.exs z f h
      exact ⟨C, j, ex, Nat.le_succ_of_le hj⟩
/-- an exception class -/
theorem Lv.addX {x fld : Str} {C : Addr} (L : Lv (ctOf K mg cs l) P w base k) (X : ExcF P w K mg base (k + 1) x fld C) : Lv (ctOf K mg cs ((x, .exn fld) :: l)) P w base (k + 2) := by
  refine ⟨fun f m' h => ?_, fun z f h => ?_⟩
  · have h : fnOf (((x, Mean.exn fld) :: l).lookup f) = some m' := h
    rw [List.lookup_cons] at h
    cases hx : f == x with
    | true => rw [hx] at h; cases h
    | false =>
      rw [hx] at h
      obtain ⟨fa', fd', ps', j, F', hj, q⟩ := L.fns f m' h
      exact ⟨fa', fd', ps', j, F', by omega, q⟩
  · have h : exOf (((x, Mean.exn fld) :: l).lookup z) = some f := h
    rw [List.lookup_cons] at h
    cases hx : z == x with
    | true =>
      rw [hx] at h
      cases h
      have e := eq_of_beq hx
      subst e
      exact ⟨C, k + 1, X, Nat.le_refl _⟩
    | false =>
      rw [hx] at h
      obtain ⟨C, j, ex, hj⟩ := L.exs z f h
      exact ⟨C, j, ex, by omega⟩
/-- a value of the module that a def reads -/
def ConOk (K : PySem.W.Frag) (mg : Str → Option Value) (x : Str) (d : D) : Prop := (x == ("__debug__" : Str)) = false ∧ ∃ u v, mg x = some u ∧ RelV v u ∧ ∀ H G, Rp K H G v d
theorem con_int {x : Str} {i : Int} {t : Tok} (h0 : (x == ("__debug__" : Str)) = false) (h : mg x = some (.int i t)) : ConOk K mg x (.int i) := ⟨h0, _, .int i, h, ⟨_, rfl⟩, fun _ _ => .int i⟩
theorem con_str {x : Str} {i : Str} {t : Tok} (h0 : (x == ("__debug__" : Str)) = false) (h : mg x = some (.str i t)) : ConOk K mg x (.str i) := ⟨h0, _, .str i, h, ⟨_, rfl⟩, fun _ _ => .str i⟩
/-- a tuple of ints -/
theorem con_itup {x : Str} {a : Addr} {od : Option Addr} {its : List Value} {n : Nat} {sl : Array (Option Value)} {is : List Int} (h0 : (x == ("__debug__" : Str)) = false) (h : mg x = some (.ref a)) (hk : K.lookup a = some ⟨.type "tuple", od, .seq its.toArray n, sl⟩) (hl : is.length ≤ 1000) (r : Vals (is.map V.int) its) : ConOk K mg x (.tuple (is.map .int)) := by
  refine ⟨h0, _, .ref a, h, rfl, fun H G => ?_⟩
  have hi : ∀ (ns : List Int), DpAll K (HG H G) (ns.map V.int) (ns.map PyData.int) := fun ns => by
    induction ns with
    | nil => exact .nil
    | cons n ns ih => exact .cons (.int n) ih
  refine .tup (xs := is.map V.int) ?_ (hi is)
  right
  refine ⟨_, its.toArray, n, hk, rfl, rfl, ?_, by simpa using r⟩
  have := r.length
  rw [List.length_map] at this
  rw [List.size_toArray, sizeLine_eq]
  omega
theorem Mod.mk' {l : List (Str × Mean)} (hb : ∀ x ∈ bltNames, mg x = none) (hc : ∀ p ∈ cs, ConOk K mg p.1 p.2) : Mod (ctOf K mg cs l) where
  blt := hb
  glob := fun x d h => by
    have h : cs.lookup x = some d := h
    exact hc (x, d) (PySem.mem_of_lookup h)
theorem forall_nil {α : Type} {p : α → Prop} : ∀ x ∈ ([] : List α), p x := fun _ h => nomatch h
theorem forall_cons {α : Type} {p : α → Prop} {a : α} {l : List α} (h : p a) (t : ∀ x ∈ l, p x) : ∀ x ∈ a :: l, p x := fun x hx => by
  rcases List.mem_cons.mp hx with rfl | hx
  · exact h
  · exact t x hx
end
def scB (N P : List Str) (sc : Scope) : Bool :=
  decide (sc.kind = .function) && !sc.isCoroutine && !sc.isGenerator && decide N.Nodup && decide (N.take P.length = P) && P.all (fun x => decide (sc.names.lookup x = some .local) || decide (sc.names.lookup x = some .cell)) && sc.names.all (fun y => !decide (y.2 = .free))
theorem scope_by {N P : List Str} {sc : Scope} (h : scB N P sc = true) : FnScope N P sc := by
  unfold scB at h
  simp only [Bool.and_eq_true, Bool.not_eq_true', decide_eq_true_eq, List.all_eq_true, Bool.or_eq_true, decide_eq_false_iff_not] at h
  obtain ⟨⟨⟨⟨⟨⟨h1, h2⟩, h3⟩, h4⟩, h5⟩, h6⟩, h7⟩ := h
  exact ⟨h1, h2, h3, h4, h5, h6, h7⟩
/-- the law's end -/
theorem walk_end {l : PySem.W.OpenLaw} {k : Nat} {q : Program} {loose : List Str} {XP : (Str → Option Value) → Heap → Prop} {YP : World → Heap → Prop} {d : DefRec} {K : Params → PySem.W.Frag} {cs : List (Str × D)} {fs : List (Str × Mean)} {m : List D → Option (Except Exn D)} {x : Str}
    (hn : l.most = some 63) (hdf : d.params.defaults = []) (hr : Room k callerA)
    (hY : ∀ (w : World) (h : Heap), YP w h → (K w.params).In h)
    (hm : ∀ ns : List Int, ns.length ≤ 63 → m [.list (ns.map .int)] = some (.ok (.bool true)))
    (F : ∀ (w : World) (mg : Str → Option Value) (fa : Addr) (h : Heap), (K w.params).In h → h.Ns mainGlobals mg → mg d.name = some (.ref fa) →
      ∃ fd : FuncData, (∀ (s : Shared) (u : Value), BindsTo s fd ⟨[u], []⟩ [(x, u)]) ∧
        ∀ base : Heap, (K w.params).In base → base.Ns mainGlobals mg → FnG l.prog w (K w.params) mg base k fa fd [x] (spPure (ctOf (K w.params) mg cs fs) 1 m)) :
    PySem.W.WalkO q loose XP YP l.row.toRowW d [] (fun f vs => PySem.call f vs) := by
  refine top_walk (n := 63) (k := k) (x := x) (sp := fun w mg => spPure (ctOf (K w.params) mg cs fs) 1 m) hn (by decide) hdf hr hY F (fun w mg H a ns hl hO hS => ?_)
  refine ⟨fun b => ∃ u, H b = some u, [.list (ns.map .int)], .ok (.bool true), fun b h => h, .cons ?_ .nil, rfl, hm ns hl, fun v H' G' st gh r => rbool r⟩
  have hi : ∀ (ns : List Int) (H : Hp), DpAll (K w.params) H (ns.map V.int) (ns.map PyData.int) := fun ns H => by
    induction ns with
    | nil => exact .nil
    | cons n ns ih => exact .cons (.int n) ih
  refine .lst (xs := ns.map V.int) ?_ (hi ns _)
  rcases hS with (h | ⟨o, h⟩) | h
  · exact .inl (.inl (HG_lst.mpr ⟨h, _, h⟩))
  · exact .inl (.inr ⟨o, HG_frz.mpr h⟩)
  · exact .inr h
end NW
end
section
set_option Elab.async false
set_option linter.all false
set_option maxRecDepth 100000
set_option maxHeartbeats 2000000
/-! NWt: plain lemmas about the evaluator -/
namespace NW
open PySem L2
abbrev tup (xs : List Int) : D := .tuple (xs.map .int)
@[simp] theorem intsOf_map (xs : List Int) : intsOf (xs.map .int) = some xs := by
  induction xs with
  | nil => rfl
  | cons x xs ih => simp [intsOf, ih]
@[simp] theorem boolsOf_map (xs : List Bool) : boolsOf (xs.map .bool) = some xs := by
  induction xs with
  | nil => rfl
  | cons x xs ih => simp [boolsOf, ih]
@[simp] theorem boolsOf_rep (n : Nat) (b : Bool) : boolsOf (List.replicate n (PyData.bool b)) = some (List.replicate n b) := by
  induction n with
  | zero => rfl
  | succ n ih => simp [List.replicate_succ, boolsOf, ih]
@[simp] theorem eqD_int (a b : Int) : eqD (.int a) (.int b) = some (decide (a = b)) := by
  simp [eqD, SeqAt.shaped, shaped, PyData.canLay0, PyData.depth, PyData.eqv]
  rfl
@[simp] theorem eqD_bool (a b : Bool) : eqD (.bool a) (.bool b) = some (decide (a = b)) := by
  simp [eqD, SeqAt.shaped, shaped, PyData.canLay0, PyData.depth, PyData.eqv]
  cases a <;> cases b <;> rfl
@[simp] theorem eqD_nn : eqD (.list []) (.list []) = some true := by decide +kernel
theorem lay_ints (xs : List Int) : PyData.canLayAll0 (xs.map .int) = true := by
  induction xs with
  | nil => rfl
  | cons x xs ih => simp [PyData.canLayAll0, PyData.canLay0, ih]
theorem depth_ints (xs : List Int) : PyData.depthAll (xs.map .int) ≤ 1 := by
  induction xs with
  | nil => simp [PyData.depthAll]
  | cons x xs ih =>
    simp [PyData.depthAll, PyData.depth]
    omega
theorem eqv_ints : ∀ xs ys : List Int, PyData.eqvAll (xs.map .int) (ys.map .int) = decide (xs = ys)
  | [], [] => rfl
  | [], _ :: _ => rfl
  | _ :: _, [] => rfl
  | x :: xs, y :: ys => by
    rw [List.map_cons, List.map_cons, PyData.eqvAll, eqv_ints xs ys]
    simp only [PyData.eqv, List.cons.injEq]
    rw [Bool.decide_and]
    rfl
@[simp] theorem eqD_ints (xs ys : List Int) : eqD (.list (xs.map .int)) (.list (ys.map .int)) = some (decide (xs = ys)) := by
  have h1 := depth_ints xs
  have h2 := depth_ints ys
  have d1 : PyData.depth (.list (xs.map .int)) ≤ 64 := by simp only [PyData.depth]; omega
  have d2 : PyData.depth (.list (ys.map .int)) ≤ 64 := by simp only [PyData.depth]; omega
  have c1 : PyData.canLay0 (.list (xs.map .int)) = true := by simp only [PyData.canLay0]; exact lay_ints xs
  have c2 : PyData.canLay0 (.list (ys.map .int)) = true := by simp only [PyData.canLay0]; exact lay_ints ys
  unfold eqD shaped SeqAt.shaped
  rw [c1, c2, decide_eq_true d1, decide_eq_true d2]
  simp only [PyData.eqv, Bool.and_self, if_true]
  rw [eqv_ints]
@[simp] theorem eqD_nil (xs : List Int) : eqD (.list (xs.map .int)) (.list []) = some (decide (xs = [])) := eqD_ints xs []
@[simp] theorem at0 {x : D} {xs : List D} : atI (x :: xs) 0 = some x := by
  have h : (0 : Int) < ((x :: xs).length : Int) := by rw [List.length_cons]; omega
  unfold atI ixN
  rw [if_pos (Int.le_refl 0), if_pos h]
  rfl
@[simp] theorem at1 {x y : D} {xs : List D} : atI (x :: y :: xs) 1 = some y := by
  have h : (1 : Int) < ((x :: y :: xs).length : Int) := by rw [List.length_cons, List.length_cons]; omega
  unfold atI ixN
  rw [if_pos (by omega), if_pos h]
  rfl
@[simp] theorem at2 {x y z : D} {xs : List D} : atI (x :: y :: z :: xs) 2 = some z := by
  have h : (2 : Int) < ((x :: y :: z :: xs).length : Int) := by rw [List.length_cons, List.length_cons, List.length_cons]; omega
  unfold atI ixN
  rw [if_pos (by omega), if_pos h]
  rfl
def getI (xs : List Int) (i : Int) : Int := xs.getD i.toNat 0
theorem atI_ints {xs : List Int} {i : Int} (h0 : 0 ≤ i) (h1 : i < xs.length) : atI (xs.map PyData.int) i = some (.int (getI xs i)) := by
  unfold atI ixN
  rw [if_pos h0, List.length_map, if_pos h1]
  show (xs.map PyData.int)[i.toNat]? = _
  have : i.toNat < xs.length := by omega
  rw [List.getElem?_map, List.getElem?_eq_getElem this]
  unfold getI
  rw [List.getD_eq_getElem?_getD, List.getElem?_eq_getElem this]
  rfl
theorem compL_none {turn : D → Env → Option (Out (Option D))} {env : Env} : ∀ {items : List D}, (∀ d ∈ items, turn d env = some (.ok none env)) → compL turn items env = some (.ok [] env)
  | [], _ => rfl
  | d :: ds, h => by
    unfold compL
    rw [h d List.mem_cons_self]
    simp only
    rw [compL_none fun x hx => h x (List.mem_cons_of_mem _ hx)]
theorem cut_take (xs : List D) (k : Nat) : cutD xs none (some (k : Int)) = xs.take k := by
  unfold cutD
  rw [HT.sIx_nat, HT.sIx_none, List.drop_zero, Nat.sub_zero]
  rw [← List.take_eq_take_min]
@[simp] theorem eqD_cn (x : Int) (xs : List Int) : eqD (.list (.int x :: xs.map .int)) (.list []) = some false := eqD_ints (x :: xs) []
theorem compL_map {turn : D → Env → Option (Out (Option D))} {env : Env} (f : D → D) : ∀ {items : List D}, (∀ d ∈ items, turn d env = some (.ok (some (f d)) env)) → compL turn items env = some (.ok (items.map f) env)
  | [], _ => rfl
  | d :: ds, h => by
    unfold compL
    rw [h d List.mem_cons_self]
    simp only
    rw [compL_map f fun x hx => h x (List.mem_cons_of_mem _ hx)]
    rfl
theorem compL_filter {turn : D → Env → Option (Out (Option D))} {env : Env} (p : D → Bool) : ∀ {items : List D}, (∀ d ∈ items, turn d env = some (.ok (if p d then some d else none) env)) → compL turn items env = some (.ok (items.filter p) env)
  | [], _ => rfl
  | d :: ds, h => by
    unfold compL
    rw [h d List.mem_cons_self]
    simp only
    rw [compL_filter p fun x hx => h x (List.mem_cons_of_mem _ hx)]
    cases hp : p d with
    | true => simp [List.filter_cons, hp]
    | false => simp [List.filter_cons, hp]
theorem compL_ind {turn : D → Env → Option (Out (Option D))} (I : Nat → List D → Env → Prop) : ∀ {items : List D} {n : Nat} {acc : List D} {env : Env}, (∀ i d ac e, items[i]? = some d → I (n + i) ac e → ∃ y e', turn d e = some (.ok (some y) e') ∧ I (n + i + 1) (ac ++ [y]) e') → I n acc env →
    ∃ ds e', compL turn items env = some (.ok ds e') ∧ I (n + items.length) (acc ++ ds) e'
  | [], n, acc, env, _, h0 => ⟨[], env, rfl, by simpa using h0⟩
  | d :: ds, n, acc, env, st, h0 => by
    obtain ⟨y, e', h1, h2⟩ := st 0 d acc env rfl h0
    obtain ⟨r, e2, h3, h4⟩ := compL_ind I (items := ds) (n := n + 1) (acc := acc ++ [y]) (env := e') (fun i d' ac e hi hI => by
      have := st (i + 1) d' ac e (by simpa using hi) (by rw [show n + (i + 1) = n + 1 + i by omega]; exact hI)
      rw [show n + (i + 1) + 1 = n + 1 + i + 1 by omega] at this
      exact this) h2
    refine ⟨y :: r, e2, ?_, ?_⟩
    · unfold compL
      rw [h1]
      simp only
      rw [h3]
    · rw [List.length_cons, show n + (ds.length + 1) = n + 1 + ds.length by omega]
      simpa using h4
/-- a loop whose turns all go on -/
theorem forL_ind {body : D → Env → Option SO} (I : Nat → Env → Prop) : ∀ {items : List D} {n : Nat} {env : Env}, (∀ i d e, items[i]? = some d → I (n + i) e → ∃ e', (body d e = some (.nx e') ∨ body d e = some (.cnt e')) ∧ I (n + i + 1) e') → I n env →
    ∃ e', forL body items env = some (.nx e') ∧ I (n + items.length) e'
  | [], n, env, _, h0 => ⟨env, rfl, h0⟩
  | d :: ds, n, env, st, h0 => by
    obtain ⟨e', h1, h2⟩ := st 0 d env rfl h0
    obtain ⟨e2, h3, h4⟩ := forL_ind I (items := ds) (n := n + 1) (env := e') (fun i d' e hi hI => by
      have := st (i + 1) d' e (by simpa using hi) (by rw [show n + (i + 1) = n + 1 + i by omega]; exact hI)
      rw [show n + (i + 1) + 1 = n + 1 + i + 1 by omega] at this
      exact this) h2
    refine ⟨e2, ?_, ?_⟩
    · unfold forL
      rcases h1 with h1 | h1 <;> (rw [h1]; exact h3)
    · rw [List.length_cons, show n + (ds.length + 1) = n + 1 + ds.length by omega]
      exact h4
theorem seq_nx {Γ : Gam} {pn : Nat} {s : CS} {r : CSs} {env env' : Env} (h : evalS Γ pn s env = some (.nx env')) : evalSs Γ pn (.cons s r) env = evalSs Γ pn r env' := by rw [evalSs_cons, h]
theorem seq_ret {Γ : Gam} {pn : Nat} {s : CS} {r : CSs} {env env' : Env} {o : O} (h : evalS Γ pn s env = some (.ret o env')) : evalSs Γ pn (.cons s r) env = some (.ret o env') := by rw [evalSs_cons, h]
theorem for_nx {Γ : Gam} {pn : Nat} {t : CT} {src : CI} {body : CSs} {env env1 : Env} {items : List D} {out : SO} (ht : targets pn t = true) (hi : evalI Γ src env = some (.ok items env1)) (hl : forL (bodyF (setT t) (evalSs Γ pn body)) items env1 = some out) : evalS Γ pn (.for_ t src body) env = some out := by
  rw [evalS_for, if_pos ht, hi, sbnd_ok, hl]
theorem rng_of {Γ : Gam} {e : CE} {env env1 : Env} {p : P} {n : Nat} (he : evalE Γ e env = some (.ok p env1)) (hf : flatP p env1 = some (.int (n : Int))) (hr : rngOk (n : Int) = true) : evalI Γ (.rng e) env = some (.ok (rangeD 0 n) env1) := by
  rw [evalI_rng, he, bnd_ok, hf]
  exact (if_pos hr).trans (by rw [Int.toNat_natCast])
theorem rangeD_eq : ∀ (n : Nat) (lo : Int), rangeD lo n = (List.range n).map fun (i : Nat) => PyData.int (lo + (i : Int))
  | 0, _ => rfl
  | n + 1, lo => by
    rw [rangeD, rangeD_eq n, List.range_succ_eq_map, List.map_cons, List.map_map]
    congr 1
    · simp
    · refine List.map_congr_left fun i _ => ?_
      show PyData.int _ = PyData.int _
      congr 1
      simp only [Nat.succ_eq_add_one]
      omega
theorem rp_ret {Γ : Gam} {n : Nat} {b : CSs} {ds : List D} {e : Env} {o : O} {d : D} (h : evalSs Γ 0 b (startE n (ds.map .fz)) = some (.ret o e)) (hd : o.flat = some d) : runPure Γ n b ds = some (.ok d) := by
  unfold runPure
  rw [h]
  show (match o.flat with | some d => some (Except.ok d) | none => none) = _
  rw [hd]
end NW
end
section
set_option Elab.async false
set_option linter.all false
set_option maxRecDepth 100000
set_option maxHeartbeats 2000000
/-! NWv: data that may be shown, compared, sorted -/
namespace NW
open PySem L2
theorem v_log2 {i : Int} (h : i.natAbs < 2 ^ 64) : i.natAbs.log2 < 64 := by
  by_cases h0 : i.natAbs = 0
  · rw [h0]; decide
  · exact (Nat.log2_lt h0).mpr h
structure Fine (k c : Nat) (d : D) : Prop where
  lay : PyData.canLay0 d = true
  shw : PyData.showable d = true
  dep : PyData.depth d ≤ k
  len : (PyData.shown d).length ≤ c
theorem Fine.mono {k c k' c' : Nat} {d : D} (h : Fine k c d) (hk : k ≤ k') (hc : c ≤ c') : Fine k' c' d :=
  ⟨h.lay, h.shw, Nat.le_trans h.dep hk, Nat.le_trans h.len hc⟩
theorem Fine.int {i : Int} (h : i.natAbs < 2 ^ 64) : Fine 0 65 (.int i) where
  lay := by simp only [PyData.canLay0]
  shw := by
    have := v_log2 h
    simp only [PyData.showable, decide_eq_true_eq]
    omega
  dep := by simp [PyData.depth]
  len := by
    have := int_text_length_le (a := i) (k := 64) (by decide) (v_log2 h)
    simp only [PyData.shown]
    rw [ofString_length]
    omega
theorem Fine.nat {n : Nat} (h : n ≤ 1000000000) : Fine 0 65 (.int (n : Int)) := Fine.int (by omega)
theorem Fine.none : Fine 0 4 .none := ⟨by simp only [PyData.canLay0], rfl, by simp [PyData.depth], by simp only [PyData.shown]; decide⟩
theorem Fine.bool (b : Bool) : Fine 0 5 (.bool b) := ⟨by simp only [PyData.canLay0], rfl, by simp [PyData.depth], by cases b <;> (simp only [PyData.shown]; decide)⟩
theorem Fine.str {c : Nat} {x : Str} (h1 : PyData.canLay0 (.str x) = true) (h2 : (PyData.shown (.str x)).length ≤ c) : Fine 0 c (.str x) :=
  ⟨h1, rfl, by simp [PyData.depth], h2⟩
theorem fine_all {k c : Nat} : ∀ xs : List D, (∀ x ∈ xs, Fine k c x) → PyData.canLayAll0 xs = true ∧ PyData.showableAll xs = true ∧ PyData.depthAll xs ≤ k ∧ ((PyData.shownAll xs).map (·.length)).sum ≤ c * xs.length ∧ (PyData.shownAll xs).length = xs.length
  | [], _ => ⟨rfl, rfl, by simp [PyData.depthAll], by simp [PyData.shownAll], rfl⟩
  | x :: xs, h => by
    obtain ⟨h1, h2, h3, h4, h5⟩ := fine_all xs fun y hy => h y (List.mem_cons_of_mem _ hy)
    have hx := h x List.mem_cons_self
    have hd := hx.dep
    have hl := hx.len
    refine ⟨?_, ?_, ?_, ?_, ?_⟩
    · simp only [PyData.canLayAll0, hx.lay, h1, Bool.and_self]
    · simp only [PyData.showableAll, hx.shw, h2, Bool.and_self]
    · simp only [PyData.depthAll]; omega
    · simp only [PyData.shownAll, List.map_cons, List.sum_cons, List.length_cons, Nat.mul_succ]; omega
    · simp only [PyData.shownAll, List.length_cons, h5]
theorem Fine.tuple {k c N c' : Nat} {xs : List D} (h : ∀ x ∈ xs, Fine k c x) (hN : xs.length ≤ N) (hc : (c + 2) * N + 3 ≤ c') : Fine (k + 1) c' (.tuple xs) := by
  obtain ⟨h1, h2, h3, h4, h5⟩ := fine_all xs h
  refine ⟨by simp only [PyData.canLay0]; exact h1, by simp only [PyData.showable]; exact h2, by simp only [PyData.depth]; omega, ?_⟩
  simp only [PyData.shown]
  have := tupleText_len_le (PyData.shownAll xs)
  rw [h5] at this
  have a1 : (c + 2) * xs.length ≤ (c + 2) * N := Nat.mul_le_mul_left _ hN
  rw [Nat.add_mul] at a1
  omega
theorem Fine.list {k c N c' : Nat} {xs : List D} (h : ∀ x ∈ xs, Fine k c x) (hN : xs.length ≤ N) (hc : (c + 2) * N + 3 ≤ c') : Fine (k + 1) c' (.list xs) := by
  obtain ⟨h1, h2, h3, h4, h5⟩ := fine_all xs h
  refine ⟨by simp only [PyData.canLay0]; exact h1, by simp only [PyData.showable]; exact h2, by simp only [PyData.depth]; omega, ?_⟩
  simp only [PyData.shown]
  have := listText_len_le (PyData.shownAll xs)
  rw [h5] at this
  have a1 : (c + 2) * xs.length ≤ (c + 2) * N := Nat.mul_le_mul_left _ hN
  rw [Nat.add_mul] at a1
  omega
section
variable {k c : Nat} {d : D}
theorem Fine.shaped (h : Fine k c d) (hk : k ≤ 64) : shaped d = true := by
  have := h.dep
  unfold NW.shaped SeqAt.shaped
  rw [h.lay, decide_eq_true (by omega)]; rfl
theorem Fine.repr (h : Fine k c d) (hk : k ≤ 64) (hc : c ≤ 16777216) : reprOk d = true := by
  have h1 := h.dep
  have h2 := h.len
  exact reprOk_iff.mpr ⟨h.shw, PyData.hasDict_of_canLay d h.lay, by omega, Nat.le_trans h2 hc⟩
theorem Fine.eq (h : Fine k c d) (hk : k ≤ 64) : eqD d d = some true := by
  unfold eqD
  rw [h.shaped hk]
  simp only [Bool.and_self, if_true]
  rw [PySem.SeqAt.eqv_refl d h.lay]
end
theorem hasO_mem {k c : Nat} {a : D} {ds : List D} (ha : shaped a = true) (hs : shaped (.list ds) = true) (hl : PyData.canLay0 a = true) (hm : a ∈ ds) : hasO a (.list ds) = some true := by
  unfold hasO rowOf
  simp only [ha, hs, Bool.and_self, if_true]
  congr 1
  rw [List.any_eq_true]
  exact ⟨a, hm, PySem.SeqAt.eqv_refl a hl⟩
theorem rangeD_nat : ∀ (n : Nat) (lo : Nat), rangeD (lo : Int) n = (List.range' lo n).map fun i : Nat => PyData.int (i : Int)
  | 0, _ => rfl
  | n + 1, lo => by
    rw [List.range'_succ, List.map_cons, ← rangeD_nat n (lo + 1)]
    unfold rangeD
    rw [show ((lo + 1 : Nat) : Int) = (lo : Int) + 1 by omega]
    cases n <;> rfl
theorem rangeD_zero (n : Nat) : rangeD 0 n = (List.range n).map fun i : Nat => PyData.int (i : Int) := by
  rw [List.range_eq_range']
  exact rangeD_nat n 0
/-- a comprehension without a test, turn by turn -/
theorem compL_fun {turn : D → Env → Option (Out (Option D))} {env : Env} {α : Type} (g f : α → D) {l : List α} (h : ∀ a ∈ l, turn (g a) env = some (.ok (some (f a)) env)) : compL turn (l.map g) env = some (.ok (l.map f) env) := by
  induction l with
  | nil => rfl
  | cons a l ih =>
    rw [List.map_cons]
    unfold compL
    rw [h a List.mem_cons_self]
    simp only
    rw [ih fun x hx => h x (List.mem_cons_of_mem _ hx)]
    rfl
theorem compL2_fun {turn : D → Env → Option (Out (List D))} {env : Env} {α : Type} (g : α → D) (f : α → List D) {l : List α} (h : ∀ a ∈ l, turn (g a) env = some (.ok (f a) env)) : compL2 turn (l.map g) env = some (.ok (l.map f).flatten env) := by
  induction l with
  | nil => rfl
  | cons a l ih =>
    rw [List.map_cons]
    unfold compL2
    rw [h a List.mem_cons_self]
    simp only
    rw [ih fun x hx => h x (List.mem_cons_of_mem _ hx)]
    rfl
end NW
end
section
set_option Elab.async false
set_option linter.all false
set_option maxRecDepth 100000
set_option maxHeartbeats 2000000
/-! NWx: the evaluator's functions over data, case by case -/
namespace NW
open PySem L2
@[simp] theorem ofString_inj (a b : String) : (Str.ofString a = Str.ofString b) = (a = b) := by
  apply propext
  constructor
  · intro h
    rw [Str.ofString_eq_toList, Str.ofString_eq_toList] at h
    injection h with h
    have h2 := congrArg Array.toList h
    simp only at h2
    have h3 : a.toList = b.toList := by
      have inj : ∀ x y : List Char, x.map Char.toNat = y.map Char.toNat → x = y := by
        intro x
        induction x with
        | nil => intro y h; cases y with
          | nil => rfl
          | cons c y => cases h
        | cons c x ih => intro y h; cases y with
          | nil => cases h
          | cons d y =>
            rw [List.map_cons, List.map_cons] at h
            injection h with h5 h6
            rw [ih y h6, Char.toNat_inj.mp h5]
      exact inj _ _ h2
    exact String.toList_inj.mp h3
  · intro h; rw [h]
theorem e_ixt (ds : List D) (i : Int) : ixD (.tuple ds) (.int i) = atI ds i := by rfl
theorem e_ixl (ds : List D) (i : Int) : ixD (.list ds) (.int i) = atI ds i := by rfl
theorem e_isi_int_none  : isiD .int (.none) = false := by rfl
theorem e_isi_int_bool (b : Bool) : isiD .int (.bool b) = true := by rfl
theorem e_isi_int_int (i : Int) : isiD .int (.int i) = true := by rfl
theorem e_isi_int_str (x : Str) : isiD .int (.str x) = false := by rfl
theorem e_isi_int_list (ds : List D) : isiD .int (.list ds) = false := by rfl
theorem e_isi_int_tuple (ds : List D) : isiD .int (.tuple ds) = false := by rfl
theorem e_isi_int_dict (kvs : List (D × D)) : isiD .int (.dict kvs) = false := by rfl
theorem e_isi_bool_none  : isiD .bool (.none) = false := by rfl
theorem e_isi_bool_bool (b : Bool) : isiD .bool (.bool b) = true := by rfl
theorem e_isi_bool_int (i : Int) : isiD .bool (.int i) = false := by rfl
theorem e_isi_bool_str (x : Str) : isiD .bool (.str x) = false := by rfl
theorem e_isi_bool_list (ds : List D) : isiD .bool (.list ds) = false := by rfl
theorem e_isi_bool_tuple (ds : List D) : isiD .bool (.tuple ds) = false := by rfl
theorem e_isi_bool_dict (kvs : List (D × D)) : isiD .bool (.dict kvs) = false := by rfl
theorem e_isi_str_none  : isiD .str (.none) = false := by rfl
theorem e_isi_str_bool (b : Bool) : isiD .str (.bool b) = false := by rfl
theorem e_isi_str_int (i : Int) : isiD .str (.int i) = false := by rfl
theorem e_isi_str_str (x : Str) : isiD .str (.str x) = true := by rfl
theorem e_isi_str_list (ds : List D) : isiD .str (.list ds) = false := by rfl
theorem e_isi_str_tuple (ds : List D) : isiD .str (.tuple ds) = false := by rfl
theorem e_isi_str_dict (kvs : List (D × D)) : isiD .str (.dict kvs) = false := by rfl
theorem e_isi_tuple_none  : isiD .tuple (.none) = false := by rfl
theorem e_isi_tuple_bool (b : Bool) : isiD .tuple (.bool b) = false := by rfl
theorem e_isi_tuple_int (i : Int) : isiD .tuple (.int i) = false := by rfl
theorem e_isi_tuple_str (x : Str) : isiD .tuple (.str x) = false := by rfl
theorem e_isi_tuple_list (ds : List D) : isiD .tuple (.list ds) = false := by rfl
theorem e_isi_tuple_tuple (ds : List D) : isiD .tuple (.tuple ds) = true := by rfl
theorem e_isi_tuple_dict (kvs : List (D × D)) : isiD .tuple (.dict kvs) = false := by rfl
theorem e_isi_list_none  : isiD .list (.none) = false := by rfl
theorem e_isi_list_bool (b : Bool) : isiD .list (.bool b) = false := by rfl
theorem e_isi_list_int (i : Int) : isiD .list (.int i) = false := by rfl
theorem e_isi_list_str (x : Str) : isiD .list (.str x) = false := by rfl
theorem e_isi_list_list (ds : List D) : isiD .list (.list ds) = true := by rfl
theorem e_isi_list_tuple (ds : List D) : isiD .list (.tuple ds) = false := by rfl
theorem e_isi_list_dict (kvs : List (D × D)) : isiD .list (.dict kvs) = false := by rfl
theorem e_isi_dict_none  : isiD .dict (.none) = false := by rfl
theorem e_isi_dict_bool (b : Bool) : isiD .dict (.bool b) = false := by rfl
theorem e_isi_dict_int (i : Int) : isiD .dict (.int i) = false := by rfl
theorem e_isi_dict_str (x : Str) : isiD .dict (.str x) = false := by rfl
theorem e_isi_dict_list (ds : List D) : isiD .dict (.list ds) = false := by rfl
theorem e_isi_dict_tuple (ds : List D) : isiD .dict (.tuple ds) = false := by rfl
theorem e_isi_dict_dict (kvs : List (D × D)) : isiD .dict (.dict kvs) = true := by rfl
theorem e_isN_none  : isNone (.none) = true := by rfl
theorem e_isN_bool (b : Bool) : isNone (.bool b) = false := by rfl
theorem e_isN_int (i : Int) : isNone (.int i) = false := by rfl
theorem e_isN_str (x : Str) : isNone (.str x) = false := by rfl
theorem e_isN_list (ds : List D) : isNone (.list ds) = false := by rfl
theorem e_isN_tuple (ds : List D) : isNone (.tuple ds) = false := by rfl
theorem e_isN_dict (kvs : List (D × D)) : isNone (.dict kvs) = false := by rfl
theorem e_tr_none  : truthD .none = some false := by rfl
theorem e_tr_bool (b : Bool) : truthD (.bool b) = some b := by rfl
theorem e_tr_int (i : Int) : truthD (.int i) = some (i != 0) := by rfl
theorem e_tr_tuple (ds : List D) : truthD (.tuple ds) = some (!ds.isEmpty) := by rfl
theorem e_tr_list (ds : List D) : truthD (.list ds) = some (!ds.isEmpty) := by rfl
theorem e_row_tuple (ds : List D) : rowOf (.tuple ds) = some ds := by rfl
theorem e_row_list (ds : List D) : rowOf (.list ds) = some ds := by rfl
theorem e_sl_tuple (ds : List D) (lo hi : Option Int) : slO (.tuple ds) lo hi = some (.fz (.tuple (cutD ds lo hi))) := by rfl
theorem e_sl_list (ds : List D) (lo hi : Option Int) : slO (.list ds) lo hi = some (.lst (cutD ds lo hi)) := by rfl
theorem e_set_name (i : Nat) (d : D) (env : Env) : setT (.name i) d env = some (env.set i (some (.fz d))) := by rfl
theorem e_set_tup (l : List Nat) (ds : List D) (env : Env) : setT (.tup l) (.tuple ds) env = setAll env l ds := by rfl
theorem e_eq_ss (x y : Str) : cmpO .eq (.str x) (.str y) = some (decide (x = y)) := by rfl
theorem e_ne_ss (x y : Str) : cmpO .ne (.str x) (.str y) = some (!decide (x = y)) := by rfl
theorem e_eqa_none  (z : D) : cmpO .eq (.none) z = eqD (.none) z := by rfl
theorem e_eqb_none  (z : D) : cmpO .eq z (.none) = eqD z (.none) := by cases z <;> rfl
theorem e_nea_none  (z : D) : cmpO .ne (.none) z = (eqD (.none) z).map (!·) := by rfl
theorem e_neb_none  (z : D) : cmpO .ne z (.none) = (eqD z (.none)).map (!·) := by cases z <;> rfl
theorem e_eqa_bool (b : Bool) (z : D) : cmpO .eq (.bool b) z = eqD (.bool b) z := by rfl
theorem e_eqb_bool (b : Bool) (z : D) : cmpO .eq z (.bool b) = eqD z (.bool b) := by cases z <;> rfl
theorem e_nea_bool (b : Bool) (z : D) : cmpO .ne (.bool b) z = (eqD (.bool b) z).map (!·) := by rfl
theorem e_neb_bool (b : Bool) (z : D) : cmpO .ne z (.bool b) = (eqD z (.bool b)).map (!·) := by cases z <;> rfl
theorem e_eqa_int (i : Int) (z : D) : cmpO .eq (.int i) z = eqD (.int i) z := by rfl
theorem e_eqb_int (i : Int) (z : D) : cmpO .eq z (.int i) = eqD z (.int i) := by cases z <;> rfl
theorem e_nea_int (i : Int) (z : D) : cmpO .ne (.int i) z = (eqD (.int i) z).map (!·) := by rfl
theorem e_neb_int (i : Int) (z : D) : cmpO .ne z (.int i) = (eqD z (.int i)).map (!·) := by cases z <;> rfl
theorem e_eqa_list (ds : List D) (z : D) : cmpO .eq (.list ds) z = eqD (.list ds) z := by rfl
theorem e_eqb_list (ds : List D) (z : D) : cmpO .eq z (.list ds) = eqD z (.list ds) := by cases z <;> rfl
theorem e_nea_list (ds : List D) (z : D) : cmpO .ne (.list ds) z = (eqD (.list ds) z).map (!·) := by rfl
theorem e_neb_list (ds : List D) (z : D) : cmpO .ne z (.list ds) = (eqD z (.list ds)).map (!·) := by cases z <;> rfl
theorem e_eqa_tuple (ds : List D) (z : D) : cmpO .eq (.tuple ds) z = eqD (.tuple ds) z := by rfl
theorem e_eqb_tuple (ds : List D) (z : D) : cmpO .eq z (.tuple ds) = eqD z (.tuple ds) := by cases z <;> rfl
theorem e_nea_tuple (ds : List D) (z : D) : cmpO .ne (.tuple ds) z = (eqD (.tuple ds) z).map (!·) := by rfl
theorem e_neb_tuple (ds : List D) (z : D) : cmpO .ne z (.tuple ds) = (eqD z (.tuple ds)).map (!·) := by cases z <;> rfl
theorem e_eqa_dict (kvs : List (D × D)) (z : D) : cmpO .eq (.dict kvs) z = eqD (.dict kvs) z := by rfl
theorem e_eqb_dict (kvs : List (D × D)) (z : D) : cmpO .eq z (.dict kvs) = eqD z (.dict kvs) := by cases z <;> rfl
theorem e_nea_dict (kvs : List (D × D)) (z : D) : cmpO .ne (.dict kvs) z = (eqD (.dict kvs) z).map (!·) := by rfl
theorem e_neb_dict (kvs : List (D × D)) (z : D) : cmpO .ne z (.dict kvs) = (eqD z (.dict kvs)).map (!·) := by cases z <;> rfl
theorem e_lt (a b : Int) : cmpO .lt (.int a) (.int b) = some (decide (a < b)) := by rfl
theorem e_le (a b : Int) : cmpO .le (.int a) (.int b) = some (decide (a ≤ b)) := by rfl
theorem e_gt (a b : Int) : cmpO .gt (.int a) (.int b) = some (decide (b < a)) := by rfl
theorem e_ge (a b : Int) : cmpO .ge (.int a) (.int b) = some (decide (b ≤ a)) := by rfl
theorem e_isin (a b : D) : cmpO .isin a b = hasO a b := by cases a <;> cases b <;> rfl
theorem e_notin (a b : D) : cmpO .notin a b = (hasO a b).map (!·) := by cases a <;> cases b <;> rfl
theorem e_is (a b : Bool) : cmpO .is (.bool a) (.bool b) = some (decide (a = b)) := by rfl
theorem e_isnt (a b : Bool) : cmpO .isnt (.bool a) (.bool b) = some (!decide (a = b)) := by rfl
theorem e_add_ii (a b : Int) : binO .add (.int a) (.int b) = (some (.fz (.int (a + b))) : Option O) := by rfl
theorem e_add_ss (a b : Str) : binO .add (.str a) (.str b) = (if a.length + b.length ≤ lim then some (.fz (.str (a ++ b))) else none : Option O) := by rfl
theorem e_add_tt (a b : List D) : binO .add (.tuple a) (.tuple b) = (if a.length + b.length ≤ lim then some (.fz (.tuple (a ++ b))) else none : Option O) := by rfl
theorem e_add_ll (a b : List D) : binO .add (.list a) (.list b) = (if a.length + b.length ≤ lim then some (.lst (a ++ b)) else none : Option O) := by rfl
theorem e_sub_ii (a b : Int) : binO .sub (.int a) (.int b) = (some (.fz (.int (a - b))) : Option O) := by rfl
theorem e_mul_ii (a b : Int) : binO .mul (.int a) (.int b) = (if smallI a || smallI b then some (.fz (.int (a * b))) else none : Option O) := by rfl
theorem e_mul_ti (ds : List D) (n : Int) : binO .mul (.tuple ds) (.int n) = (if repOk ds.length n then some (.fz (.tuple (repD ds n.toNat))) else if n = 1 then some (.fz (.tuple ds)) else if n = 0 then some (.fz (.tuple [])) else none : Option O) := by rfl
theorem e_mul_li (ds : List D) (n : Int) : binO .mul (.list ds) (.int n) = (if replOk ds.length n then some (.lst (repD ds n.toNat)) else none : Option O) := by rfl
theorem e_fdiv_ii (a b : Int) : binO .fdiv (.int a) (.int b) = (if divOk b then some (.fz (.int (a / b))) else none : Option O) := by rfl
theorem e_mod_ii (a b : Int) : binO .mod (.int a) (.int b) = (if 0 < b then some (.fz (.int (a % b))) else none : Option O) := by rfl
theorem e_pow_ii (a b : Int) : binO .pow (.int a) (.int b) = (if powOk a b then some (.fz (.int (a ^ b.toNat))) else none : Option O) := by rfl
theorem e_len_t (ds : List D) : biO .len [.tuple ds] = (some (.fz (.int ds.length)) : Option O) := by rfl
theorem e_len_l (ds : List D) : biO .len [.list ds] = (some (.fz (.int ds.length)) : Option O) := by rfl
theorem e_int_i (i : Int) : biO .int [.int i] = (some (.fz (.int i)) : Option O) := by rfl
theorem e_int_b (b : Bool) : biO .int [.bool b] = (some (.fz (.int (if b then 1 else 0))) : Option O) := by rfl
theorem e_max_ii (i j : Int) : biO .max [.int i, .int j] = (some (.fz (.int (if j > i then j else i))) : Option O) := by rfl
theorem e_min_ii (i j : Int) : biO .min [.int i, .int j] = (some (.fz (.int (if j < i then j else i))) : Option O) := by rfl
theorem e_max_l (ds : List D) : biO .max [.list ds] = (match intsOf ds with | some ns => if 0 < ns.length then some (.fz (.int (maxI ns))) else none | none => none : Option O) := by rfl
theorem e_min_l (ds : List D) : biO .min [.list ds] = (match intsOf ds with | some ns => if 0 < ns.length then some (.fz (.int (minI ns))) else none | none => none : Option O) := by rfl
theorem e_max_t (ds : List D) : biO .max [.tuple ds] = (match intsOf ds with | some ns => if 0 < ns.length then some (.fz (.int (maxI ns))) else none | none => none : Option O) := by rfl
theorem e_min_t (ds : List D) : biO .min [.tuple ds] = (match intsOf ds with | some ns => if 0 < ns.length then some (.fz (.int (minI ns))) else none | none => none : Option O) := by rfl
theorem e_sum_l (ds : List D) : biO .sum [.list ds] = (match intsOf ds with | some ns => some (.fz (.int ns.sum)) | none => none : Option O) := by rfl
theorem e_sum_t (ds : List D) : biO .sum [.tuple ds] = (match intsOf ds with | some ns => some (.fz (.int ns.sum)) | none => none : Option O) := by rfl
theorem e_all_l (ds : List D) : biO .all [.list ds] = (match boolsOf ds with | some bs => some (.fz (.bool (bs.all id))) | none => none : Option O) := by rfl
theorem e_any_l (ds : List D) : biO .any [.list ds] = (match boolsOf ds with | some bs => some (.fz (.bool (bs.any id))) | none => none : Option O) := by rfl
theorem e_tuple_l (ds : List D) : biO .tuple [.list ds] = (some (.fz (.tuple ds)) : Option O) := by rfl
theorem e_tuple_t (ds : List D) : biO .tuple [.tuple ds] = (some (.fz (.tuple ds)) : Option O) := by rfl
theorem e_list_l (ds : List D) : biO .list [.list ds] = (some (.lst ds) : Option O) := by rfl
theorem e_list_t (ds : List D) : biO .list [.tuple ds] = (some (.lst ds) : Option O) := by rfl
theorem e_repr_d (d : D) : biO .repr [d] = (if reprOk d then some (.fz (.str (shownS d))) else none : Option O) := by rfl
theorem e_divmod_ii (i j : Int) : biO .divmod [.int i, .int j] = (if divOk j then some (.fz (.tuple [.int (i / j), .int (i % j)])) else none : Option O) := by rfl
theorem e_sorted_l (ds : List D) : biO .sorted [.list ds] = (if sortOk ds then some (.lst (sortD ds)) else none : Option O) := by rfl
theorem e_aug_add (a b : Int) : augO .add (.int a) (.int b) = some (.int (a + b)) := by rfl
theorem e_aug_sub (a b : Int) : augO .sub (.int a) (.int b) = some (.int (a - b)) := by rfl
end NW
end
section
set_option Elab.async false
set_option linter.all false
set_option maxRecDepth 100000
set_option maxHeartbeats 2000000
noncomputable section
namespace NW
open PySem L2
def n__law_begun : List Str := ["_law_script", "_law_cell"]
def p__law_begun_1 : CB := (.of (.cmp .ge (.var 1) (.bin .pow (.lit (.int 10)) (.lit (.int 18)))))
def p__law_begun_2 : CE := (.var 1)
def b__law_begun : CSs := (.cons (.ret (.dct ["cells", "left", "at"] (.cons (.bi .list (.cons (.var 0) .nil)) (.cons (.comp [1] (.name 1) (.of (.var 0)) p__law_begun_1 p__law_begun_2) (.cons (.lit (.int 0)) .nil)))))
  .nil)
def n__law_next : List Str := ["_law_m", "_law_total", "_law_rest", "_law_k", "_law_cell", "_law_mixed"]
def p__law_next_1 : CSs := (.cons (.put 0 (.lit (.str "left")) (.sl (.fld 0 "left") (.some (.lit (.int 1))) .none))
  .nil)
def p__law_next_2 : CS := (.while_ (.and (.of (.cmp .ne (.fld 0 "left") (.lst .nil))) (.of (.cmp .eq (.ix (.fld 0 "left") (.lit (.int 0))) (.lit (.int 0))))) p__law_next_1)
def p__law_next_3 : CS := (.asg (.name 2) (.bi .int (.cons (.ix (.fld 0 "left") (.lit (.int 0))) .nil)))
def p__law_next_4 : CS := (.putf 0 "left" (.lit (.int 0)) (.bin .fdiv (.var 2) (.var 1)))
def p__law_next_5 : CS := (.ret (.bin .mod (.var 2) (.var 1)))
def p__law_next_6 : CS := (.ite (.of (.cmp .ne (.fld 0 "left") (.lst .nil))) (.cons p__law_next_3 (.cons p__law_next_4 (.cons p__law_next_5 .nil))) .nil)
def p__law_next_7 : CS := (.asg (.name 3) (.bin .add (.fld 0 "at") (.lit (.int 1))))
def p__law_next_8 : CS := (.put 0 (.lit (.str "at")) (.var 3))
def p__law_next_9 : CS := (.asg (.name 4) (.ite (.of (.cmp .ne (.fld 0 "cells") (.lst .nil))) (.ix (.fld 0 "cells") (.bin .mod (.bi .int (.cons (.var 3) .nil)) (.bi .len (.cons (.fld 0 "cells") .nil)))) (.lit (.int 3))))
def p__law_next_10 : CS := (.asg (.name 5) (.bin .mul (.bi .int (.cons (.bin .add (.bin .add (.bin .mod (.bi .int (.cons (.var 4) .nil)) (.lit (.int 2147483629))) (.bin .mul (.lit (.int 7919)) (.var 3))) (.bin .mul (.bin .mul (.lit (.int 19)) (.var 3)) (.var 3))) .nil)) (.lit (.int 48271))))
def p__law_next_11 : CS := (.asg (.name 5) (.bin .mul (.bi .int (.cons (.bin .add (.bin .mod (.bi .int (.cons (.var 5) .nil)) (.lit (.int 2147483647))) (.bin .mul (.lit (.int 104729)) (.var 3))) .nil)) (.lit (.int 69621))))
def p__law_next_12 : CS := (.ret (.bin .mod (.bi .int (.cons (.bin .fdiv (.bin .mod (.bi .int (.cons (.var 5) .nil)) (.lit (.int 2147483587))) (.lit (.int 11))) .nil)) (.var 1)))
def b__law_next : CSs := (.cons p__law_next_2 (.cons p__law_next_6 (.cons p__law_next_7 (.cons p__law_next_8 (.cons p__law_next_9 (.cons p__law_next_10 (.cons p__law_next_11 (.cons p__law_next_12 .nil))))))))
def n__law_tongue : List Str := ["_law_m", "_law_total", "_law_notes", "_law_rows", "_law_k", "_law_role", "_law_low"]
def p__law_tongue_1 : CS := (.asg (.name 3) (.lst .nil))
def p__law_tongue_2 : CS := (.asg (.name 5) (.ix (.lst (.cons (.lit (.str "on")) (.cons (.lit (.str "off")) (.cons (.lit (.str "quiet")) (.cons (.lit (.str "other")) .nil))))) (.cio "_law_next" 0 (.cons (.lit (.int 4)) .nil))))
def p__law_tongue_3 : CS := (.asg (.name 6) (.ite (.of (.cmp .isin (.var 5) (.tup (.cons (.lit (.str "on")) (.cons (.lit (.str "off")) .nil))))) (.lit (.int 1)) (.lit (.int 0))))
def p__law_tongue_4 : CS := (.append 3 (.tup (.cons (.var 5) (.cons (.bin .add (.var 6) (.cio "_law_next" 0 (.cons (.bin .sub (.lit (.int 3)) (.var 6)) .nil))) .nil))))
def p__law_tongue_5 : CSs := (.cons p__law_tongue_2 (.cons p__law_tongue_3 (.cons p__law_tongue_4 .nil)))
def p__law_tongue_6 : CS := (.for_ (.name 4) (.rng (.bin .add (.lit (.int 1)) (.cio "_law_next" 0 (.cons (.var 1) .nil)))) p__law_tongue_5)
def p__law_tongue_7 : CS := (.ret (.tup (.cons (.bi .tuple (.cons (.var 3) .nil)) (.cons (.bin .add (.lit (.int 1)) (.cio "_law_next" 0 (.cons (.var 2) .nil))) (.cons (.cio "_law_next" 0 (.cons (.lit (.int 3)) .nil)) .nil)))))
def b__law_tongue : CSs := (.cons p__law_tongue_1 (.cons p__law_tongue_6 (.cons p__law_tongue_7 .nil)))
def n_is_whole : List Str := ["thing", "least", "most"]
def p_is_whole_1 : CS := (.ite (.or (.not (.of (.isi (.var 0) .int))) (.or (.of (.isi (.var 0) .bool)) (.of (.cmp .lt (.var 0) (.var 1))))) (.cons (.ret (.lit (.bool false)))
  .nil) .nil)
def p_is_whole_2 : CS := (.ret (.or (.isN (.var 2)) (.cmp .le (.var 0) (.var 2))))
def b_is_whole : CSs := (.cons p_is_whole_1 (.cons p_is_whole_2 .nil))
def n_is_head : List Str := ["thing"]
def p_is_head_1 : CS := (.ite (.or (.not (.of (.isi (.var 0) .tuple))) (.or (.of (.cmp .ne (.bi .len (.cons (.var 0) .nil)) (.lit (.int 2)))) (.not (.of (.isi (.ix (.var 0) (.lit (.int 0))) .str))))) (.cons (.ret (.lit (.bool false)))
  .nil) .nil)
def p_is_head_2 : CS := (.ite (.of (.cmp .isin (.ix (.var 0) (.lit (.int 0))) (.tup (.cons (.glob "ON") (.cons (.glob "OFF") .nil))))) (.cons (.ret (.call "is_whole" (.cons (.ix (.var 0) (.lit (.int 1))) (.cons (.lit (.int 1)) (.cons (.glob "MOST_LONG") .nil)))))
  .nil) .nil)
def p_is_head_3 : CS := (.ret (.and (.cmp .isin (.ix (.var 0) (.lit (.int 0))) (.tup (.cons (.glob "QUIET") (.cons (.glob "OTHER") .nil)))) (.call "is_whole" (.cons (.ix (.var 0) (.lit (.int 1))) (.cons (.lit (.int 0)) (.cons (.glob "MOST_LONG") .nil))))))
def b_is_head : CSs := (.cons p_is_head_1 (.cons p_is_head_2 (.cons p_is_head_3 .nil)))
def n_need_language : List Str := ["thing", "heads", "one"]
def p_need_language_1 : CS := (.ite (.or (.not (.of (.isi (.var 0) .tuple))) (.of (.cmp .ne (.bi .len (.cons (.var 0) .nil)) (.lit (.int 3))))) (.cons .never
  .nil) .nil)
def p_need_language_2 : CS := (.asg (.name 1) (.ix (.var 0) (.lit (.int 0))))
def p_need_language_3 : CE := (.call "is_head" (.cons (.var 2) .nil))
def p_need_language_4 : CS := (.ite (.or (.not (.of (.isi (.var 1) .tuple))) (.or (.not (.of (.chain .le .le (.lit (.int 1)) (.bi .len (.cons (.var 1) .nil)) (.glob "MOST_HEADS")))) (.not (.of (.bi .all (.cons (.comp [2] (.name 2) (.of (.var 1)) .yes p_need_language_3) .nil)))))) (.cons .never
  .nil) .nil)
def p_need_language_5 : CS := (.ite (.not (.of (.call "is_whole" (.cons (.ix (.var 0) (.lit (.int 1))) (.cons (.lit (.int 1)) (.cons (.glob "MOST_NOTES") .nil)))))) (.cons .never
  .nil) .nil)
def p_need_language_6 : CS := (.ite (.not (.of (.call "is_whole" (.cons (.ix (.var 0) (.lit (.int 2))) (.cons (.lit (.int 0)) (.cons (.glob "MOST_MOMENTS") .nil)))))) (.cons .never
  .nil) .nil)
def p_need_language_7 : CS := (.ret (.var 0))
def b_need_language : CSs := (.cons p_need_language_1 (.cons p_need_language_2 (.cons p_need_language_4 (.cons p_need_language_5 (.cons p_need_language_6 (.cons p_need_language_7 .nil))))))
def n_signs_of : List Str := ["language", "number", "found"]
def p_signs_of_1 : CE := (.tup (.cons (.glob "HEAD") (.cons (.var 1) .nil)))
def p_signs_of_2 : CS := (.asg (.name 2) (.comp [1] (.name 1) (.rng (.bi .len (.cons (.ix (.var 0) (.lit (.int 0))) .nil))) .yes p_signs_of_1))
def p_signs_of_3 : CE := (.tup (.cons (.glob "MOMENT") (.cons (.var 1) .nil)))
def p_signs_of_4 : CS := (.asg (.name 2) (.bin .add (.var 2) (.comp [1] (.name 1) (.rng (.ix (.var 0) (.lit (.int 2)))) .yes p_signs_of_3)))
def p_signs_of_5 : CE := (.tup (.cons (.glob "VALUE") (.cons (.var 1) .nil)))
def p_signs_of_6 : CS := (.ret (.bin .add (.var 2) (.comp [1] (.name 1) (.rng (.ix (.var 0) (.lit (.int 1)))) .yes p_signs_of_5)))
def b_signs_of : CSs := (.cons p_signs_of_2 (.cons p_signs_of_4 (.cons p_signs_of_6 .nil)))
def n_is_sign : List Str := ["language", "thing"]
def p_is_sign_1 : CS := (.ite (.or (.not (.of (.isi (.var 1) .tuple))) (.or (.of (.cmp .ne (.bi .len (.cons (.var 1) .nil)) (.lit (.int 2)))) (.not (.of (.isi (.ix (.var 1) (.lit (.int 0))) .str))))) (.cons (.ret (.lit (.bool false)))
  .nil) .nil)
def p_is_sign_2 : CS := (.ret (.and (.call "is_whole" (.cons (.ix (.var 1) (.lit (.int 1))) (.cons (.lit (.int 0)) (.cons (.lit .none) .nil)))) (.cmp .isin (.var 1) (.call "signs_of" (.cons (.var 0) .nil)))))
def b_is_sign : CSs := (.cons p_is_sign_1 (.cons p_is_sign_2 .nil))
def n_need_stream : List Str := ["language", "stream", "number", "sign"]
def p_need_stream_1 : CS := (.expr (.call "need_language" (.cons (.var 0) .nil)))
def p_need_stream_2 : CS := (.ite (.or (.not (.of (.isi (.var 1) .tuple))) (.of (.cmp .gt (.bi .len (.cons (.var 1) .nil)) (.glob "MOST_SIGNS")))) (.cons .never
  .nil) .nil)
def p_need_stream_3 : CSs := (.cons (.ite (.not (.of (.call "is_sign" (.cons (.var 0) (.cons (.var 3) .nil))))) (.cons .never
  .nil) .nil)
  .nil)
def p_need_stream_4 : CS := (.for_ (.tup [2, 3]) (.enum (.var 1)) p_need_stream_3)
def b_need_stream : CSs := (.cons p_need_stream_1 (.cons p_need_stream_2 (.cons p_need_stream_4 .nil)))
def n_long_of : List Str := ["language", "head"]
def b_long_of : CSs := (.cons (.ret (.ite (.of (.cmp .eq (.var 1) (.neg (.lit (.int 1))))) (.lit (.int 0)) (.ix (.ix (.ix (.var 0) (.lit (.int 0))) (.var 1)) (.lit (.int 1)))))
  .nil)
def n_taken : List Str := ["language", "head", "got", "sign", "more"]
def p_taken_1 : CS := (.ite (.of (.cmp .eq (.ix (.var 3) (.lit (.int 0))) (.glob "MOMENT"))) (.cons (.ret (.tup (.cons (.var 1) (.cons (.var 2) (.cons (.lit .none) .nil)))))
  .nil) .nil)
def p_taken_2 : CS := (.ite (.of (.cmp .eq (.ix (.ix (.ix (.var 0) (.lit (.int 0))) (.ix (.var 3) (.lit (.int 1)))) (.lit (.int 1))) (.lit (.int 0)))) (.cons (.ret (.tup (.cons (.neg (.lit (.int 1))) (.cons (.tup .nil) (.cons (.tup (.cons (.ix (.var 3) (.lit (.int 1))) (.cons (.tup .nil) .nil))) .nil)))))
  .nil) .nil)
def p_taken_3 : CS := (.ret (.tup (.cons (.ix (.var 3) (.lit (.int 1))) (.cons (.tup .nil) (.cons (.lit .none) .nil)))))
def p_taken_4 : CS := (.ite (.of (.cmp .eq (.ix (.var 3) (.lit (.int 0))) (.glob "HEAD"))) (.cons p_taken_2 (.cons p_taken_3 .nil)) .nil)
def p_taken_5 : CS := (.ite (.of (.cmp .eq (.var 1) (.neg (.lit (.int 1))))) (.cons (.ret (.tup (.cons (.neg (.lit (.int 1))) (.cons (.tup .nil) (.cons (.lit .none) .nil)))))
  .nil) .nil)
def p_taken_6 : CS := (.asg (.name 4) (.tups (.var 2) (.cons (.ix (.var 3) (.lit (.int 1))) .nil)))
def p_taken_7 : CS := (.ret (.ite (.of (.cmp .lt (.bi .len (.cons (.var 4) .nil)) (.call "long_of" (.cons (.var 0) (.cons (.var 1) .nil))))) (.tup (.cons (.var 1) (.cons (.var 4) (.cons (.lit .none) .nil)))) (.tup (.cons (.var 1) (.cons (.tup .nil) (.cons (.tup (.cons (.var 1) (.cons (.var 4) .nil))) .nil))))))
def b_taken : CSs := (.cons p_taken_1 (.cons p_taken_4 (.cons p_taken_5 (.cons p_taken_6 (.cons p_taken_7 .nil)))))
def n_notes_behind : List Str := ["language", "on", "message", "role", "values", "note"]
def p_notes_behind_1 : CS := (.ite (.of (.isN (.var 2))) (.cons (.ret (.var 1))
  .nil) .nil)
def p_notes_behind_2 : CS := (.par [3, 4] (.cons (.ix (.ix (.ix (.var 0) (.lit (.int 0))) (.ix (.var 2) (.lit (.int 0)))) (.lit (.int 0))) (.cons (.ix (.var 2) (.lit (.int 1))) .nil)))
def p_notes_behind_3 : CS := (.ite (.of (.cmp .eq (.var 3) (.glob "QUIET"))) (.cons (.ret (.tup .nil))
  .nil) .nil)
def p_notes_behind_4 : CS := (.ite (.of (.cmp .eq (.var 3) (.glob "ON"))) (.cons (.ret (.bi .tuple (.cons (.sset (.bin .add (.var 1) (.tup (.cons (.ix (.var 4) (.lit (.int 0))) .nil)))) .nil)))
  .nil) .nil)
def p_notes_behind_5 : CB := (.of (.cmp .ne (.var 5) (.ix (.var 4) (.lit (.int 0)))))
def p_notes_behind_6 : CE := (.var 5)
def p_notes_behind_7 : CS := (.ret (.ite (.of (.cmp .eq (.var 3) (.glob "OFF"))) (.bi .tuple (.cons (.comp [5] (.name 5) (.of (.var 1)) p_notes_behind_5 p_notes_behind_6) .nil)) (.var 1)))
def b_notes_behind : CSs := (.cons p_notes_behind_1 (.cons p_notes_behind_2 (.cons p_notes_behind_3 (.cons p_notes_behind_4 (.cons p_notes_behind_7 .nil)))))
def n_read_so : List Str := ["language", "standing", "stream", "head", "got", "on", "heard", "sign", "message"]
def p_read_so_1 : CS := (.asg (.tup [3, 4, 5]) (.var 1))
def p_read_so_2 : CS := (.asg (.name 6) (.lst .nil))
def p_read_so_3 : CS := (.asg (.tup [3, 4, 8]) (.call "taken" (.cons (.var 0) (.cons (.var 3) (.cons (.var 4) (.cons (.var 7) .nil))))))
def p_read_so_4 : CS := (.asg (.name 5) (.call "notes_behind" (.cons (.var 0) (.cons (.var 5) (.cons (.var 8) .nil)))))
def p_read_so_5 : CS := (.ite (.of (.notN (.var 8))) (.cons (.append 6 (.var 8))
  .nil) .nil)
def p_read_so_6 : CSs := (.cons p_read_so_3 (.cons p_read_so_4 (.cons p_read_so_5 .nil)))
def p_read_so_7 : CS := (.for_ (.name 7) (.of (.var 2)) p_read_so_6)
def p_read_so_8 : CS := (.ret (.tup (.cons (.tup (.cons (.var 3) (.cons (.var 4) (.cons (.var 5) .nil)))) (.cons (.var 6) .nil))))
def b_read_so : CSs := (.cons p_read_so_1 (.cons p_read_so_2 (.cons p_read_so_7 (.cons p_read_so_8 .nil))))
def n_places_of : List Str := ["language", "found", "head", "rows", "at", "row", "value"]
def p_places_of_1 : CS := (.asg (.name 1) (.lst (.cons (.tup (.cons (.neg (.lit (.int 1))) (.cons (.tup .nil) .nil))) .nil)))
def p_places_of_2 : CS := (.asg (.name 3) (.lst (.cons (.tup .nil) .nil)))
def p_places_of_3 : CE := (.tup (.cons (.var 2) (.cons (.var 5) .nil)))
def p_places_of_4 : CS := (.extend 1 (.comp [5] (.name 5) (.of (.var 3)) .yes p_places_of_3))
def p_places_of_5 : CE := (.tups (.var 5) (.cons (.var 6) .nil))
def p_places_of_6 : CS := (.asg (.name 3) (.comp2 [5, 6] (.name 5) (.of (.var 3)) [6] (.name 6) (.rng (.ix (.var 0) (.lit (.int 1)))) p_places_of_5))
def p_places_of_7 : CSs := (.cons p_places_of_4 (.cons p_places_of_6 .nil))
def p_places_of_8 : CS := (.for_ (.name 4) (.rng (.call "long_of" (.cons (.var 0) (.cons (.var 2) .nil)))) p_places_of_7)
def p_places_of_9 : CSs := (.cons p_places_of_2 (.cons p_places_of_8 .nil))
def p_places_of_10 : CS := (.for_ (.name 2) (.rng (.bi .len (.cons (.ix (.var 0) (.lit (.int 0))) .nil))) p_places_of_9)
def p_places_of_11 : CS := (.ret (.var 1))
def b_places_of : CSs := (.cons p_places_of_1 (.cons p_places_of_10 (.cons p_places_of_11 .nil)))
def n_standings_of : List Str := ["language", "lots", "note", "lot", "head", "got"]
def p_standings_of_1 : CS := (.asg (.name 1) (.lst (.cons (.tup .nil) .nil)))
def p_standings_of_2 : CE := (.tups (.var 3) (.cons (.var 2) .nil))
def p_standings_of_3 : CSs := (.cons (.asg (.name 1) (.bin .add (.var 1) (.comp [3] (.name 3) (.of (.var 1)) .yes p_standings_of_2)))
  .nil)
def p_standings_of_4 : CS := (.for_ (.name 2) (.rng (.ix (.var 0) (.lit (.int 1)))) p_standings_of_3)
def p_standings_of_5 : CE := (.tup (.cons (.var 4) (.cons (.var 5) (.cons (.var 3) .nil))))
def p_standings_of_6 : CS := (.ret (.bi .sorted (.cons (.comp2 [4, 5, 3] (.tup [4, 5]) (.of (.call "places_of" (.cons (.var 0) .nil))) [3] (.name 3) (.of (.var 1)) p_standings_of_5) .nil)))
def b_standings_of : CSs := (.cons p_standings_of_1 (.cons p_standings_of_4 (.cons p_standings_of_6 .nil)))
def n_does_settle : List Str := ["language", "stream", "standing"]
def p_does_settle_1 : CS := (.expr (.call "need_stream" (.cons (.var 0) (.cons (.var 1) .nil))))
def p_does_settle_2 : CE := (.ix (.call "read_so" (.cons (.var 0) (.cons (.var 2) (.cons (.var 1) .nil)))) (.lit (.int 0)))
def p_does_settle_3 : CE := (.lit (.bool true))
def p_does_settle_4 : CS := (.ret (.cmp .eq (.lenk (.kcomp [2] (.name 2) (.of (.call "standings_of" (.cons (.var 0) .nil))) .yes p_does_settle_2 p_does_settle_3)) (.lit (.int 1))))
def b_does_settle : CSs := (.cons p_does_settle_1 (.cons p_does_settle_4 .nil))
def n_need_both : List Str := ["language", "stream", "other"]
def p_need_both_1 : CS := (.expr (.call "need_stream" (.cons (.var 0) (.cons (.var 1) .nil))))
def p_need_both_2 : CS := (.expr (.call "need_stream" (.cons (.var 0) (.cons (.var 2) .nil))))
def b_need_both : CSs := (.cons p_need_both_1 (.cons p_need_both_2 .nil))
def n_parting : List Str := ["language", "stream", "other", "standing"]
def p_parting_1 : CSs := (.cons (.ite (.of (.cmp .ne (.ix (.call "read_so" (.cons (.var 0) (.cons (.var 3) (.cons (.var 1) .nil)))) (.lit (.int 0))) (.ix (.call "read_so" (.cons (.var 0) (.cons (.var 3) (.cons (.var 2) .nil)))) (.lit (.int 0))))) (.cons (.ret (.var 3))
  .nil) .nil)
  .nil)
def p_parting_2 : CS := (.for_ (.name 3) (.of (.call "standings_of" (.cons (.var 0) .nil))) p_parting_1)
def p_parting_3 : CS := (.ret (.lit .none))
def b_parting : CSs := (.cons p_parting_2 (.cons p_parting_3 .nil))
def n_are_alike : List Str := ["language", "stream", "other"]
def p_are_alike_1 : CS := (.expr (.call "need_both" (.cons (.var 0) (.cons (.var 1) (.cons (.var 2) .nil)))))
def p_are_alike_2 : CS := (.ret (.isN (.call "parting" (.cons (.var 0) (.cons (.var 1) (.cons (.var 2) .nil))))))
def b_are_alike : CSs := (.cons p_are_alike_1 (.cons p_are_alike_2 .nil))
def n__law_line : List Str := ["_law_m", "_law_tongue_here", "_law_total", "_law_found", "_law_count", "_law_kinds", "_law_word", "_law_many"]
def p__law_line_1 : CS := (.asg (.name 3) (.lst .nil))
def p__law_line_2 : CS := (.asg (.name 5) (.lst (.cons (.tup (.cons (.lit (.str "head")) (.cons (.bi .len (.cons (.ix (.var 1) (.lit (.int 0))) .nil)) .nil))) (.cons (.tup (.cons (.lit (.str "value")) (.cons (.ix (.var 1) (.lit (.int 1))) .nil))) (.cons (.tup (.cons (.lit (.str "value")) (.cons (.ix (.var 1) (.lit (.int 1))) .nil))) (.cons (.tup (.cons (.lit (.str "moment")) (.cons (.ix (.var 1) (.lit (.int 2))) .nil))) .nil))))))
def p__law_line_3 : CS := (.asg (.tup [6, 7]) (.ix (.var 5) (.cio "_law_next" 0 (.cons (.bin .add (.lit (.int 3)) (.bi .min (.cons (.ix (.var 1) (.lit (.int 2))) (.cons (.lit (.int 1)) .nil)))) .nil))))
def p__law_line_4 : CS := (.append 3 (.tup (.cons (.var 6) (.cons (.cio "_law_next" 0 (.cons (.var 7) .nil)) .nil))))
def p__law_line_5 : CSs := (.cons p__law_line_2 (.cons p__law_line_3 (.cons p__law_line_4 .nil)))
def p__law_line_6 : CS := (.for_ (.name 4) (.rng (.cio "_law_next" 0 (.cons (.bin .add (.var 2) (.lit (.int 1))) .nil))) p__law_line_5)
def p__law_line_7 : CS := (.ret (.bi .tuple (.cons (.var 3) .nil)))
def b__law_line : CSs := (.cons p__law_line_1 (.cons p__law_line_6 (.cons p__law_line_7 .nil)))
def n__law_standings : List Str := ["_law_tongue_here", "_law_lots", "_law_found", "_law_k", "_law_lot", "_law_value", "_law_rows", "_law_here"]
def p__law_standings_1 : CS := (.par [1, 2] (.cons (.lst (.cons (.tup .nil) .nil)) (.cons (.lst (.cons (.tup (.cons (.neg (.lit (.int 1))) (.cons (.tup .nil) .nil))) .nil)) .nil)))
def p__law_standings_2 : CE := (.bin .add (.var 4) (.tup (.cons (.var 3) .nil)))
def p__law_standings_3 : CSs := (.cons (.asg (.name 1) (.bin .add (.var 1) (.comp [4] (.name 4) (.of (.var 1)) .yes p__law_standings_2)))
  .nil)
def p__law_standings_4 : CS := (.for_ (.name 3) (.rng (.ix (.var 0) (.lit (.int 1)))) p__law_standings_3)
def p__law_standings_5 : CS := (.ite (.of (.cmp .gt (.ix (.ix (.ix (.var 0) (.lit (.int 0))) (.var 3)) (.lit (.int 1))) (.lit (.int 0)))) (.cons (.append 2 (.tup (.cons (.var 3) (.cons (.tup .nil) .nil))))
  .nil) .nil)
def p__law_standings_6 : CE := (.tup (.cons (.var 3) (.cons (.tup (.cons (.var 5) .nil)) .nil)))
def p__law_standings_7 : CS := (.ite (.of (.cmp .gt (.ix (.ix (.ix (.var 0) (.lit (.int 0))) (.var 3)) (.lit (.int 1))) (.lit (.int 1)))) (.cons (.asg (.name 2) (.bin .add (.var 2) (.comp [5] (.name 5) (.rng (.ix (.var 0) (.lit (.int 1)))) .yes p__law_standings_6)))
  .nil) .nil)
def p__law_standings_8 : CSs := (.cons p__law_standings_5 (.cons p__law_standings_7 .nil))
def p__law_standings_9 : CS := (.for_ (.name 3) (.rng (.bi .len (.cons (.ix (.var 0) (.lit (.int 0))) .nil))) p__law_standings_8)
def p__law_standings_10 : CS := (.asg (.name 6) (.lst .nil))
def p__law_standings_11 : CE := (.tup (.cons (.ix (.var 7) (.lit (.int 0))) (.cons (.ix (.var 7) (.lit (.int 1))) (.cons (.var 4) .nil))))
def p__law_standings_12 : CSs := (.cons (.asg (.name 6) (.bin .add (.var 6) (.comp [4] (.name 4) (.of (.var 1)) .yes p__law_standings_11)))
  .nil)
def p__law_standings_13 : CS := (.for_ (.name 7) (.of (.var 2)) p__law_standings_12)
def p__law_standings_14 : CS := (.ret (.bi .sorted (.cons (.var 6) .nil)))
def b__law_standings : CSs := (.cons p__law_standings_1 (.cons p__law_standings_4 (.cons p__law_standings_9 (.cons p__law_standings_10 (.cons p__law_standings_13 (.cons p__law_standings_14 .nil))))))
def n_part : List Str := ["language", "stream", "other"]
def p_part_1 : CS := (.expr (.call "need_both" (.cons (.var 0) (.cons (.var 1) (.cons (.var 2) .nil)))))
def p_part_2 : CS := (.ret (.call "parting" (.cons (.var 0) (.cons (.var 1) (.cons (.var 2) .nil)))))
def b_part : CSs := (.cons p_part_1 (.cons p_part_2 .nil))
def n__law_taken : List Str := ["_law_tongue_here", "_law_here", "_law_token", "_law_word", "_law_number", "_law_whole", "_law_got"]
def p__law_taken_1 : CS := (.asg (.tup [3, 4]) (.var 2))
def p__law_taken_2 : CS := (.ite (.or (.of (.cmp .eq (.var 3) (.lit (.str "moment")))) (.and (.of (.cmp .eq (.var 3) (.lit (.str "value")))) (.of (.cmp .eq (.ix (.var 1) (.lit (.int 0))) (.neg (.lit (.int 1))))))) (.cons (.ret (.tup (.cons (.var 1) (.cons (.lit .none) .nil))))
  .nil) .nil)
def p__law_taken_3 : CS := (.asg (.name 5) (.cmp .eq (.ix (.ix (.ix (.var 0) (.lit (.int 0))) (.var 4)) (.lit (.int 1))) (.lit (.int 0))))
def p__law_taken_4 : CS := (.ret (.ite (.of (.var 5)) (.tup (.cons (.tup (.cons (.neg (.lit (.int 1))) (.cons (.tup .nil) .nil))) (.cons (.tup (.cons (.var 4) (.cons (.tup .nil) .nil))) .nil))) (.tup (.cons (.tup (.cons (.var 4) (.cons (.tup .nil) .nil))) (.cons (.lit .none) .nil)))))
def p__law_taken_5 : CS := (.ite (.of (.cmp .eq (.var 3) (.lit (.str "head")))) (.cons p__law_taken_3 (.cons p__law_taken_4 .nil)) .nil)
def p__law_taken_6 : CS := (.asg (.name 6) (.bin .add (.ix (.var 1) (.lit (.int 1))) (.tup (.cons (.var 4) .nil))))
def p__law_taken_7 : CS := (.ite (.of (.cmp .eq (.bi .len (.cons (.var 6) .nil)) (.ix (.ix (.ix (.var 0) (.lit (.int 0))) (.ix (.var 1) (.lit (.int 0)))) (.lit (.int 1))))) (.cons (.ret (.tup (.cons (.tup (.cons (.ix (.var 1) (.lit (.int 0))) (.cons (.tup .nil) .nil))) (.cons (.tup (.cons (.ix (.var 1) (.lit (.int 0))) (.cons (.var 6) .nil))) .nil))))
  .nil) .nil)
def p__law_taken_8 : CS := (.ret (.tup (.cons (.tup (.cons (.ix (.var 1) (.lit (.int 0))) (.cons (.var 6) .nil))) (.cons (.lit .none) .nil))))
def b__law_taken : CSs := (.cons p__law_taken_1 (.cons p__law_taken_2 (.cons p__law_taken_5 (.cons p__law_taken_6 (.cons p__law_taken_7 (.cons p__law_taken_8 .nil))))))
def n__law_lit : List Str := ["_law_tongue_here", "_law_lit_here", "_law_message", "_law_role", "_law_values", "_law_note"]
def p__law_lit_1 : CS := (.ite (.of (.isN (.var 2))) (.cons (.ret (.var 1))
  .nil) .nil)
def p__law_lit_2 : CS := (.par [3, 4] (.cons (.ix (.ix (.ix (.var 0) (.lit (.int 0))) (.ix (.var 2) (.lit (.int 0)))) (.lit (.int 0))) (.cons (.ix (.var 2) (.lit (.int 1))) .nil)))
def p__law_lit_3 : CS := (.ite (.of (.cmp .eq (.var 3) (.lit (.str "quiet")))) (.cons (.ret (.tup .nil))
  .nil) .nil)
def p__law_lit_4 : CS := (.ite (.of (.cmp .eq (.var 3) (.lit (.str "on")))) (.cons (.ret (.bi .tuple (.cons (.sset (.bin .add (.bi .list (.cons (.var 1) .nil)) (.lst (.cons (.ix (.var 4) (.lit (.int 0))) .nil)))) .nil)))
  .nil) .nil)
def p__law_lit_5 : CB := (.of (.cmp .ne (.var 5) (.ix (.var 4) (.lit (.int 0)))))
def p__law_lit_6 : CE := (.var 5)
def p__law_lit_7 : CS := (.ret (.ite (.of (.cmp .eq (.var 3) (.lit (.str "off")))) (.bi .tuple (.cons (.comp [5] (.name 5) (.of (.var 1)) p__law_lit_5 p__law_lit_6) .nil)) (.var 1)))
def b__law_lit : CSs := (.cons p__law_lit_1 (.cons p__law_lit_2 (.cons p__law_lit_3 (.cons p__law_lit_4 (.cons p__law_lit_7 .nil)))))
def n__law_read : List Str := ["_law_tongue_here", "_law_standing", "_law_line_here", "_law_here", "_law_lit_here", "_law_found", "_law_token", "_law_message"]
def p__law_read_1 : CS := (.par [3, 4, 5] (.cons (.sl (.var 1) .none (.some (.lit (.int 2)))) (.cons (.ix (.var 1) (.lit (.int 2))) (.cons (.lst .nil) .nil))))
def p__law_read_2 : CS := (.asg (.tup [3, 7]) (.call "_law_taken" (.cons (.var 0) (.cons (.var 3) (.cons (.var 6) .nil)))))
def p__law_read_3 : CS := (.asg (.name 4) (.call "_law_lit" (.cons (.var 0) (.cons (.var 4) (.cons (.var 7) .nil)))))
def p__law_read_4 : CS := (.ite (.of (.notN (.var 7))) (.cons (.append 5 (.var 7))
  .nil) .nil)
def p__law_read_5 : CSs := (.cons p__law_read_2 (.cons p__law_read_3 (.cons p__law_read_4 .nil)))
def p__law_read_6 : CS := (.for_ (.name 6) (.of (.var 2)) p__law_read_5)
def p__law_read_7 : CS := (.ret (.tup (.cons (.tup (.cons (.ix (.var 3) (.lit (.int 0))) (.cons (.ix (.var 3) (.lit (.int 1))) (.cons (.var 4) .nil)))) (.cons (.bi .tuple (.cons (.var 5) .nil)) .nil))))
def b__law_read : CSs := (.cons p__law_read_1 (.cons p__law_read_6 (.cons p__law_read_7 .nil)))
def n__law_right : List Str := ["_law_tongue_here", "_law_line_here", "_law_other", "_law_some", "_law_ends", "_law_one", "_law_due"]
def p__law_right_1 : CS := (.par [3, 4] (.cons (.call "_law_standings" (.cons (.var 0) .nil)) (.cons .kd0 .nil)))
def p__law_right_2 : CB := (.of (.cmp .ne (.ix (.call "_law_read" (.cons (.var 0) (.cons (.var 5) (.cons (.var 1) .nil)))) (.lit (.int 0))) (.ix (.call "_law_read" (.cons (.var 0) (.cons (.var 5) (.cons (.var 2) .nil)))) (.lit (.int 0)))))
def p__law_right_3 : CE := (.var 5)
def p__law_right_4 : CS := (.asg (.name 6) (.comp [5] (.name 5) (.of (.var 3)) p__law_right_2 p__law_right_3))
def p__law_right_5 : CSs := (.cons (.put 4 (.ix (.call "_law_read" (.cons (.var 0) (.cons (.var 5) (.cons (.var 1) .nil)))) (.lit (.int 0))) (.lit (.bool true)))
  .nil)
def p__law_right_6 : CS := (.for_ (.name 5) (.of (.var 3)) p__law_right_5)
def p__law_right_7 : CS := (.ite (.of (.cmp .ne (.bi .repr (.cons (.call "part" (.cons (.var 0) (.cons (.var 1) (.cons (.var 2) .nil)))) .nil)) (.bi .repr (.cons (.ite (.of (.cmp .ne (.var 6) (.lst .nil))) (.ix (.var 6) (.lit (.int 0))) (.lit .none)) .nil)))) (.cons (.ret (.lit (.bool false)))
  .nil) .nil)
def p__law_right_8 : CS := (.ret (.cmp .eq (.bi .repr (.cons (.lst (.cons (.call "are_alike" (.cons (.var 0) (.cons (.var 1) (.cons (.var 2) .nil)))) (.cons (.call "does_settle" (.cons (.var 0) (.cons (.var 1) .nil))) .nil))) .nil)) (.bi .repr (.cons (.lst (.cons (.cmp .eq (.var 6) (.lst .nil)) (.cons (.cmp .eq (.lenk (.var 4)) (.lit (.int 1))) .nil))) .nil))))
def b__law_right : CSs := (.cons p__law_right_1 (.cons p__law_right_4 (.cons p__law_right_6 (.cons p__law_right_7 (.cons p__law_right_8 .nil)))))
def n_law : List Str := ["_law_script", "_law_m", "_law_turn", "_law_tongue_here", "_law_line_here", "_law_other", "_law_k", "_law_heads", "_law_couples", "_law_one", "_law_two", "_law_hall"]
def p_law_1 : CS := (.asg (.name 1) (.call "_law_begun" (.cons (.var 0) .nil)))
def p_law_2 : CS := (.asg (.name 3) (.cio "_law_tongue" 1 (.cons (.lit (.int 3)) (.cons (.lit (.int 3)) .nil))))
def p_law_3 : CS := (.par [4, 5] (.cons (.cio "_law_line" 1 (.cons (.var 3) (.cons (.lit (.int 8)) .nil))) (.cons (.cio "_law_line" 1 (.cons (.var 3) (.cons (.lit (.int 8)) .nil))) .nil)))
def p_law_4 : CS := (.asg (.name 6) (.cio "_law_next" 1 (.cons (.bin .add (.bi .len (.cons (.var 4) .nil)) (.lit (.int 1))) .nil)))
def p_law_5 : CS := (.asg (.name 7) (.tup (.cons (.tup (.cons (.lit (.str "head")) (.cons (.cio "_law_next" 1 (.cons (.bi .len (.cons (.ix (.var 3) (.lit (.int 0))) .nil)) .nil)) .nil))) .nil)))
def p_law_6 : CS := (.asg (.name 8) (.lst (.cons (.tup (.cons (.var 4) (.cons (.var 5) .nil))) (.cons (.tup (.cons (.var 4) (.cons (.bin .add (.bin .add (.sl (.var 4) .none (.some (.var 6))) (.bin .mul (.tup (.cons (.tup (.cons (.lit (.str "moment")) (.cons (.lit (.int 0)) .nil))) .nil)) (.bi .min (.cons (.ix (.var 3) (.lit (.int 2))) (.cons (.lit (.int 1)) .nil))))) (.sl (.var 4) (.some (.var 6)) .none)) .nil))) .nil))))
def p_law_7 : CS := (.asg (.name 8) (.bin .add (.var 8) (.lst (.cons (.tup (.cons (.var 4) (.cons (.bin .add (.var 7) (.var 4)) .nil))) (.cons (.tup (.cons (.bin .add (.var 7) (.var 4)) (.cons (.bin .add (.bin .add (.var 7) (.var 7)) (.var 4)) .nil))) .nil)))))
def p_law_8 : CS := (.append 8 (.tup (.cons (.var 4) (.cons (.bin .add (.sl (.var 4) .none (.some (.var 6))) (.sl (.var 4) (.some (.bin .add (.var 6) (.lit (.int 1)))) .none)) .nil))))
def p_law_9 : CSs := (.cons (.ite (.not (.of (.call "_law_right" (.cons (.var 3) (.cons (.var 9) (.cons (.var 10) .nil)))))) (.cons (.ret (.lit (.bool false)))
  .nil) .nil)
  .nil)
def p_law_10 : CS := (.for_ (.tup [9, 10]) (.of (.bin .add (.var 8) (.lst (.cons (.tup (.cons (.bin .add (.var 4) (.var 5)) (.cons (.var 5) .nil))) (.cons (.tup (.cons (.var 4) (.cons (.var 4) .nil))) .nil))))) p_law_9)
def p_law_11 : CSs := (.cons p_law_2 (.cons p_law_3 (.cons p_law_4 (.cons p_law_5 (.cons p_law_6 (.cons p_law_7 (.cons p_law_8 (.cons p_law_10 .nil))))))))
def p_law_12 : CS := (.for_ (.name 2) (.rng (.bin .add (.lit (.int 3)) (.bi .min (.cons (.bi .len (.cons (.var 0) .nil)) (.cons (.lit (.int 6)) .nil))))) p_law_11)
def p_law_13 : CS := (.asg (.name 11) (.tup (.cons (.tup (.cons (.tup (.cons (.lit (.str "quiet")) (.cons (.lit (.int 0)) .nil))) (.cons (.tup (.cons (.lit (.str "on")) (.cons (.lit (.int 1)) .nil))) .nil))) (.cons (.lit (.int 2)) (.cons (.lit (.int 0)) .nil)))))
def p_law_14 : CS := (.ret (.and (.call "does_settle" (.cons (.var 11) (.cons (.tup (.cons (.tup (.cons (.lit (.str "head")) (.cons (.lit (.int 0)) .nil))) .nil)) .nil))) (.and (.not (.call "does_settle" (.cons (.var 11) (.cons (.tup (.cons (.tup (.cons (.lit (.str "head")) (.cons (.lit (.int 1)) .nil))) .nil)) .nil)))) (.call "are_alike" (.cons (.var 11) (.cons (.tup .nil) (.cons (.tup .nil) .nil)))))))
def b_law : CSs := (.cons p_law_1 (.cons p_law_12 (.cons p_law_13 (.cons p_law_14 .nil))))
def csts : List (Str × D) := [("ON", (.str "on")), ("OFF", (.str "off")), ("QUIET", (.str "quiet")), ("OTHER", (.str "other")), ("HEAD", (.str "head")), ("VALUE", (.str "value")), ("MOMENT", (.str "moment")), ("MOST_HEADS", (.int 4)), ("MOST_LONG", (.int 2)), ("MOST_NOTES", (.int 4)), ("MOST_MOMENTS", (.int 2)), ("MOST_SIGNS", (.int 400))]
def fs0 : List (Str × Mean) := []
def G__law_begun : Gam := Gof csts fs0
def M__law_begun : List D → Option O := runMk G__law_begun 2 b__law_begun
def fs1 : List (Str × Mean) := ("_law_begun", .mk 1 M__law_begun) :: fs0
def G__law_next : Gam := Gof csts fs1
def M__law_next : O → List D → Option (Except Exn D × O) := runIo G__law_next 6 b__law_next
def fs2 : List (Str × Mean) := ("_law_next", .io 1 M__law_next) :: fs1
def G__law_tongue : Gam := Gof csts fs2
def M__law_tongue : O → List D → Option (Except Exn D × O) := runIo G__law_tongue 7 b__law_tongue
def fs3 : List (Str × Mean) := ("_law_tongue", .io 2 M__law_tongue) :: fs2
theorem f__law_tongue___law_next : G__law_tongue.fn "_law_next" = some (.io 1 M__law_next) := rfl
def G_is_whole : Gam := Gof csts fs3
def M_is_whole : List D → Option (Except Exn D) := runPure G_is_whole 3 b_is_whole
def fs4 : List (Str × Mean) := ("is_whole", .pure 3 M_is_whole) :: fs3
def G_is_head : Gam := Gof csts fs4
def M_is_head : List D → Option (Except Exn D) := runPure G_is_head 1 b_is_head
def fs5 : List (Str × Mean) := ("is_head", .pure 1 M_is_head) :: fs4
theorem f_is_head__ON : G_is_head.const "ON" = some (.str "on") := rfl
theorem f_is_head__OFF : G_is_head.const "OFF" = some (.str "off") := rfl
theorem f_is_head__is_whole : G_is_head.fn "is_whole" = some (.pure 3 M_is_whole) := rfl
theorem f_is_head__MOST_LONG : G_is_head.const "MOST_LONG" = some (.int 2) := rfl
theorem f_is_head__QUIET : G_is_head.const "QUIET" = some (.str "quiet") := rfl
theorem f_is_head__OTHER : G_is_head.const "OTHER" = some (.str "other") := rfl
def G_need_language : Gam := Gof csts fs5
def M_need_language : List D → Option (Except Exn D) := runPure G_need_language 3 b_need_language
def fs6 : List (Str × Mean) := ("need_language", .pure 1 M_need_language) :: fs5
theorem f_need_language__is_whole : G_need_language.fn "is_whole" = some (.pure 3 M_is_whole) := rfl
theorem f_need_language__MOST_NOTES : G_need_language.const "MOST_NOTES" = some (.int 4) := rfl
theorem f_need_language__MOST_MOMENTS : G_need_language.const "MOST_MOMENTS" = some (.int 2) := rfl
theorem f_need_language__MOST_HEADS : G_need_language.const "MOST_HEADS" = some (.int 4) := rfl
theorem f_need_language__is_head : G_need_language.fn "is_head" = some (.pure 1 M_is_head) := rfl
def G_signs_of : Gam := Gof csts fs6
def M_signs_of : List D → Option (Except Exn D) := runPure G_signs_of 3 b_signs_of
def fs7 : List (Str × Mean) := ("signs_of", .pure 1 M_signs_of) :: fs6
theorem f_signs_of__HEAD : G_signs_of.const "HEAD" = some (.str "head") := rfl
theorem f_signs_of__MOMENT : G_signs_of.const "MOMENT" = some (.str "moment") := rfl
theorem f_signs_of__VALUE : G_signs_of.const "VALUE" = some (.str "value") := rfl
def G_is_sign : Gam := Gof csts fs7
def M_is_sign : List D → Option (Except Exn D) := runPure G_is_sign 2 b_is_sign
def fs8 : List (Str × Mean) := ("is_sign", .pure 2 M_is_sign) :: fs7
theorem f_is_sign__is_whole : G_is_sign.fn "is_whole" = some (.pure 3 M_is_whole) := rfl
theorem f_is_sign__signs_of : G_is_sign.fn "signs_of" = some (.pure 1 M_signs_of) := rfl
def G_need_stream : Gam := Gof csts fs8
def M_need_stream : List D → Option (Except Exn D) := runPure G_need_stream 4 b_need_stream
def fs9 : List (Str × Mean) := ("need_stream", .pure 2 M_need_stream) :: fs8
theorem f_need_stream__need_language : G_need_stream.fn "need_language" = some (.pure 1 M_need_language) := rfl
theorem f_need_stream__MOST_SIGNS : G_need_stream.const "MOST_SIGNS" = some (.int 400) := rfl
theorem f_need_stream__is_sign : G_need_stream.fn "is_sign" = some (.pure 2 M_is_sign) := rfl
def G_long_of : Gam := Gof csts fs9
def M_long_of : List D → Option (Except Exn D) := runPure G_long_of 2 b_long_of
def fs10 : List (Str × Mean) := ("long_of", .pure 2 M_long_of) :: fs9
def G_taken : Gam := Gof csts fs10
def M_taken : List D → Option (Except Exn D) := runPure G_taken 5 b_taken
def fs11 : List (Str × Mean) := ("taken", .pure 4 M_taken) :: fs10
theorem f_taken__MOMENT : G_taken.const "MOMENT" = some (.str "moment") := rfl
theorem f_taken__HEAD : G_taken.const "HEAD" = some (.str "head") := rfl
theorem f_taken__long_of : G_taken.fn "long_of" = some (.pure 2 M_long_of) := rfl
def G_notes_behind : Gam := Gof csts fs11
def M_notes_behind : List D → Option (Except Exn D) := runPure G_notes_behind 6 b_notes_behind
def fs12 : List (Str × Mean) := ("notes_behind", .pure 3 M_notes_behind) :: fs11
theorem f_notes_behind__QUIET : G_notes_behind.const "QUIET" = some (.str "quiet") := rfl
theorem f_notes_behind__ON : G_notes_behind.const "ON" = some (.str "on") := rfl
theorem f_notes_behind__OFF : G_notes_behind.const "OFF" = some (.str "off") := rfl
def G_read_so : Gam := Gof csts fs12
def M_read_so : List D → Option (Except Exn D) := runPure G_read_so 9 b_read_so
def fs13 : List (Str × Mean) := ("read_so", .pure 3 M_read_so) :: fs12
theorem f_read_so__taken : G_read_so.fn "taken" = some (.pure 4 M_taken) := rfl
theorem f_read_so__notes_behind : G_read_so.fn "notes_behind" = some (.pure 3 M_notes_behind) := rfl
def G_places_of : Gam := Gof csts fs13
def M_places_of : List D → Option (Except Exn D) := runPure G_places_of 7 b_places_of
def fs14 : List (Str × Mean) := ("places_of", .pure 1 M_places_of) :: fs13
theorem f_places_of__long_of : G_places_of.fn "long_of" = some (.pure 2 M_long_of) := rfl
def G_standings_of : Gam := Gof csts fs14
def M_standings_of : List D → Option (Except Exn D) := runPure G_standings_of 6 b_standings_of
def fs15 : List (Str × Mean) := ("standings_of", .pure 1 M_standings_of) :: fs14
theorem f_standings_of__places_of : G_standings_of.fn "places_of" = some (.pure 1 M_places_of) := rfl
def G_does_settle : Gam := Gof csts fs15
def M_does_settle : List D → Option (Except Exn D) := runPure G_does_settle 3 b_does_settle
def fs16 : List (Str × Mean) := ("does_settle", .pure 2 M_does_settle) :: fs15
theorem f_does_settle__need_stream : G_does_settle.fn "need_stream" = some (.pure 2 M_need_stream) := rfl
theorem f_does_settle__read_so : G_does_settle.fn "read_so" = some (.pure 3 M_read_so) := rfl
theorem f_does_settle__standings_of : G_does_settle.fn "standings_of" = some (.pure 1 M_standings_of) := rfl
def G_need_both : Gam := Gof csts fs16
def M_need_both : List D → Option (Except Exn D) := runPure G_need_both 3 b_need_both
def fs17 : List (Str × Mean) := ("need_both", .pure 3 M_need_both) :: fs16
theorem f_need_both__need_stream : G_need_both.fn "need_stream" = some (.pure 2 M_need_stream) := rfl
def G_parting : Gam := Gof csts fs17
def M_parting : List D → Option (Except Exn D) := runPure G_parting 4 b_parting
def fs18 : List (Str × Mean) := ("parting", .pure 3 M_parting) :: fs17
theorem f_parting__standings_of : G_parting.fn "standings_of" = some (.pure 1 M_standings_of) := rfl
theorem f_parting__read_so : G_parting.fn "read_so" = some (.pure 3 M_read_so) := rfl
def G_are_alike : Gam := Gof csts fs18
def M_are_alike : List D → Option (Except Exn D) := runPure G_are_alike 3 b_are_alike
def fs19 : List (Str × Mean) := ("are_alike", .pure 3 M_are_alike) :: fs18
theorem f_are_alike__need_both : G_are_alike.fn "need_both" = some (.pure 3 M_need_both) := rfl
theorem f_are_alike__parting : G_are_alike.fn "parting" = some (.pure 3 M_parting) := rfl
def G__law_line : Gam := Gof csts fs19
def M__law_line : O → List D → Option (Except Exn D × O) := runIo G__law_line 8 b__law_line
def fs20 : List (Str × Mean) := ("_law_line", .io 2 M__law_line) :: fs19
theorem f__law_line___law_next : G__law_line.fn "_law_next" = some (.io 1 M__law_next) := rfl
def G__law_standings : Gam := Gof csts fs20
def M__law_standings : List D → Option (Except Exn D) := runPure G__law_standings 8 b__law_standings
def fs21 : List (Str × Mean) := ("_law_standings", .pure 1 M__law_standings) :: fs20
def G_part : Gam := Gof csts fs21
def M_part : List D → Option (Except Exn D) := runPure G_part 3 b_part
def fs22 : List (Str × Mean) := ("part", .pure 3 M_part) :: fs21
theorem f_part__need_both : G_part.fn "need_both" = some (.pure 3 M_need_both) := rfl
theorem f_part__parting : G_part.fn "parting" = some (.pure 3 M_parting) := rfl
def G__law_taken : Gam := Gof csts fs22
def M__law_taken : List D → Option (Except Exn D) := runPure G__law_taken 7 b__law_taken
def fs23 : List (Str × Mean) := ("_law_taken", .pure 3 M__law_taken) :: fs22
def G__law_lit : Gam := Gof csts fs23
def M__law_lit : List D → Option (Except Exn D) := runPure G__law_lit 6 b__law_lit
def fs24 : List (Str × Mean) := ("_law_lit", .pure 3 M__law_lit) :: fs23
def G__law_read : Gam := Gof csts fs24
def M__law_read : List D → Option (Except Exn D) := runPure G__law_read 8 b__law_read
def fs25 : List (Str × Mean) := ("_law_read", .pure 3 M__law_read) :: fs24
theorem f__law_read___law_taken : G__law_read.fn "_law_taken" = some (.pure 3 M__law_taken) := rfl
theorem f__law_read___law_lit : G__law_read.fn "_law_lit" = some (.pure 3 M__law_lit) := rfl
def G__law_right : Gam := Gof csts fs25
def M__law_right : List D → Option (Except Exn D) := runPure G__law_right 7 b__law_right
def fs26 : List (Str × Mean) := ("_law_right", .pure 3 M__law_right) :: fs25
theorem f__law_right___law_standings : G__law_right.fn "_law_standings" = some (.pure 1 M__law_standings) := rfl
theorem f__law_right__part : G__law_right.fn "part" = some (.pure 3 M_part) := rfl
theorem f__law_right___law_read : G__law_right.fn "_law_read" = some (.pure 3 M__law_read) := rfl
theorem f__law_right__are_alike : G__law_right.fn "are_alike" = some (.pure 3 M_are_alike) := rfl
theorem f__law_right__does_settle : G__law_right.fn "does_settle" = some (.pure 2 M_does_settle) := rfl
def G_law : Gam := Gof csts fs26
def M_law : List D → Option (Except Exn D) := runPure G_law 12 b_law
def fs27 : List (Str × Mean) := ("law", .pure 1 M_law) :: fs26
theorem f_law___law_begun : G_law.fn "_law_begun" = some (.mk 1 M__law_begun) := rfl
theorem f_law___law_tongue : G_law.fn "_law_tongue" = some (.io 2 M__law_tongue) := rfl
theorem f_law___law_next : G_law.fn "_law_next" = some (.io 1 M__law_next) := rfl
theorem f_law__does_settle : G_law.fn "does_settle" = some (.pure 2 M_does_settle) := rfl
theorem f_law__are_alike : G_law.fn "are_alike" = some (.pure 3 M_are_alike) := rfl
theorem f_law___law_line : G_law.fn "_law_line" = some (.io 2 M__law_line) := rfl
theorem f_law___law_right : G_law.fn "_law_right" = some (.pure 3 M__law_right) := rfl
end NW
end
end
section
set_option Elab.async false
set_option linter.all false
set_option maxRecDepth 100000
set_option maxHeartbeats 2000000
namespace NW
open PySem L2
/-! languages as they are drawn -/
inductive Rl | on | off | quiet | other
  deriving DecidableEq
def Rl.s : Rl → Str
  | .on => "on" | .off => "off" | .quiet => "quiet" | .other => "other"
abbrev Hs := List (Rl × Nat)
def hd (r : Rl × Nat) : D := .tuple [.str r.1.s, .int (r.2 : Nat)]
def lang (hs : Hs) (n m : Nat) : D := .tuple [.tuple (hs.map hd), .int (n : Nat), .int (m : Nat)]
def rowOk (r : Rl × Nat) : Prop := r.2 ≤ 2 ∧ (r.1 = .on ∨ r.1 = .off → 1 ≤ r.2)
structure LOk (hs : Hs) (n m : Nat) : Prop where
  h1 : 1 ≤ hs.length
  h4 : hs.length ≤ 4
  hr : ∀ r ∈ hs, rowOk r
  n1 : 1 ≤ n
  n4 : n ≤ 4
  m2 : m ≤ 2
def rw' (hs : Hs) (k : Nat) : Rl × Nat := hs.getD k (.other, 0)
theorem rw_ok {hs : Hs} {n m : Nat} (L : LOk hs n m) (k : Nat) : rowOk (rw' hs k) := by
  unfold rw'
  by_cases h : k < hs.length
  · rw [List.getD_eq_getElem?_getD, List.getElem?_eq_getElem h]
    exact L.hr _ (List.getElem_mem h)
  · rw [List.getD_eq_getElem?_getD, List.getElem?_eq_none (by omega)]
    exact ⟨by simp, by simp⟩
@[simp] theorem hd_ix0 (r : Rl × Nat) : ixD (hd r) (.int 0) = some (.str r.1.s) := by simp [hd, ixD]
@[simp] theorem hd_ix1 (r : Rl × Nat) : ixD (hd r) (.int 1) = some (.int (r.2 : Nat)) := by simp [hd, ixD]
@[simp] theorem lang_ix0 (hs : Hs) (n m : Nat) : ixD (lang hs n m) (.int 0) = some (.tuple (hs.map hd)) := by simp [lang, ixD]
@[simp] theorem lang_ix1 (hs : Hs) (n m : Nat) : ixD (lang hs n m) (.int 1) = some (.int (n : Nat)) := by simp [lang, ixD]
@[simp] theorem lang_ix2 (hs : Hs) (n m : Nat) : ixD (lang hs n m) (.int 2) = some (.int (m : Nat)) := by simp [lang, ixD]
@[simp] theorem lang_isi (hs : Hs) (n m : Nat) : isiD .tuple (lang hs n m) = true := rfl
@[simp] theorem lang_len (hs : Hs) (n m : Nat) : biO .len [lang hs n m] = some (.fz (.int 3)) := rfl
@[simp] theorem hd_isi (r : Rl × Nat) : isiD .tuple (hd r) = true := rfl
@[simp] theorem hd_len (r : Rl × Nat) : biO .len [hd r] = some (.fz (.int 2)) := rfl
theorem at_hd {hs : Hs} {k : Nat} (h : k < hs.length) : atI (hs.map hd) (k : Int) = some (hd (rw' hs k)) := by
  unfold atI ixN
  rw [if_pos (by omega), List.length_map, if_pos (by omega)]
  show (hs.map hd)[((k : Int)).toNat]? = _
  rw [Int.toNat_natCast, List.getElem?_map, List.getElem?_eq_getElem h]
  unfold rw'
  rw [List.getD_eq_getElem?_getD, List.getElem?_eq_getElem h]
  rfl
def hD : Option Nat → D
  | none => .int (-1)
  | some k => .int (k : Nat)
@[simp] theorem hD_some (k : Nat) : hD (some k) = .int (k : Nat) := rfl
@[simp] theorem hD_none : hD none = .int (-1) := rfl
/-! words -/
theorem has_oo (r : Rl) : hasO (.str r.s) (.tuple [.str "on", .str "off"]) = some (decide (r = .on ∨ r = .off)) := by cases r <;> decide +kernel
theorem has_qo (r : Rl) : hasO (.str r.s) (.tuple [.str "quiet", .str "other"]) = some (decide (r = .quiet ∨ r = .other)) := by cases r <;> decide +kernel
theorem fine_word (r : Rl) : Fine 0 65 (.str r.s) := by cases r <;> exact Fine.str (by decide +kernel) (by decide +kernel)
theorem fine_hd {r : Rl × Nat} (h : rowOk r) : Fine 1 200 (hd r) := by
  refine Fine.tuple (k := 0) (c := 65) (N := 2) (fun x hx => ?_) (by simp) (by omega)
  rcases List.mem_cons.mp hx with rfl | hx
  · exact fine_word _
  · rw [List.mem_singleton] at hx
    subst hx
    exact Fine.nat (by have := h.1; omega)
theorem fine_lang {hs : Hs} {n m : Nat} (L : LOk hs n m) : Fine 3 4000 (lang hs n m) := by
  refine Fine.tuple (k := 2) (c := 900) (N := 3) (fun x hx => ?_) (by simp) (by omega)
  simp only [List.mem_cons, List.not_mem_nil, or_false] at hx
  rcases hx with rfl | rfl | rfl
  · refine Fine.tuple (k := 1) (c := 200) (N := 4) (fun y hy => ?_) (by rw [List.length_map]; exact L.h4) (by omega)
    obtain ⟨r, hr, rfl⟩ := List.mem_map.mp hy
    exact fine_hd (L.hr r hr)
  · exact (Fine.nat (by have := L.n4; omega)).mono (by omega) (by omega)
  · exact (Fine.nat (by have := L.m2; omega)).mono (by omega) (by omega)
/-! whole numbers -/
theorem ev_is_whole (x l h : Int) : M_is_whole [.int x, .int l, .int h] = some (.ok (.bool (decide (l ≤ x) && decide (x ≤ h)))) := by
  unfold M_is_whole
  by_cases h1 : x < l
  · have : ¬ l ≤ x := by omega
    simp [runPure, runIo, runMk, b_is_whole, p_is_whole_1, p_is_whole_2, mv, setOs, lim, targets, flats, tup, startE, slot, flatP, O.flat, share, frz, endO, intsOf, boolsOf, setAll, P.still, callD, callI, e_ixt, e_ixl, e_isi_int_none, e_isi_int_bool, e_isi_int_int, e_isi_int_str, e_isi_int_list, e_isi_int_tuple, e_isi_int_dict, e_isi_bool_none, e_isi_bool_bool, e_isi_bool_int, e_isi_bool_str, e_isi_bool_list, e_isi_bool_tuple, e_isi_bool_dict, e_isi_str_none, e_isi_str_bool, e_isi_str_int, e_isi_str_str, e_isi_str_list, e_isi_str_tuple, e_isi_str_dict, e_isi_tuple_none, e_isi_tuple_bool, e_isi_tuple_int, e_isi_tuple_str, e_isi_tuple_list, e_isi_tuple_tuple, e_isi_tuple_dict, e_isi_list_none, e_isi_list_bool, e_isi_list_int, e_isi_list_str, e_isi_list_list, e_isi_list_tuple, e_isi_list_dict, e_isi_dict_none, e_isi_dict_bool, e_isi_dict_int, e_isi_dict_str, e_isi_dict_list, e_isi_dict_tuple, e_isi_dict_dict, e_isN_none, e_isN_bool, e_isN_int, e_isN_str, e_isN_list, e_isN_tuple, e_isN_dict, e_tr_none, e_tr_bool, e_tr_int, e_tr_tuple, e_tr_list, e_row_tuple, e_row_list, e_sl_tuple, e_sl_list, e_set_name, e_set_tup, e_eq_ss, e_ne_ss, e_eqa_none, e_eqb_none, e_nea_none, e_neb_none, e_eqa_bool, e_eqb_bool, e_nea_bool, e_neb_bool, e_eqa_int, e_eqb_int, e_nea_int, e_neb_int, e_eqa_list, e_eqb_list, e_nea_list, e_neb_list, e_eqa_tuple, e_eqb_tuple, e_nea_tuple, e_neb_tuple, e_eqa_dict, e_eqb_dict, e_nea_dict, e_neb_dict, e_lt, e_le, e_gt, e_ge, e_isin, e_notin, e_is, e_isnt, e_add_ii, e_add_ss, e_add_tt, e_add_ll, e_sub_ii, e_mul_ii, e_mul_ti, e_mul_li, e_fdiv_ii, e_mod_ii, e_pow_ii, e_len_t, e_len_l, e_int_i, e_int_b, e_max_ii, e_min_ii, e_max_l, e_min_l, e_max_t, e_min_t, e_sum_l, e_sum_t, e_all_l, e_any_l, e_tuple_l, e_tuple_t, e_list_l, e_list_t, e_repr_d, e_divmod_ii, e_sorted_l, e_aug_add, e_aug_sub, h1, this]
  · have : l ≤ x := by omega
    simp [runPure, runIo, runMk, b_is_whole, p_is_whole_1, p_is_whole_2, mv, setOs, lim, targets, flats, tup, startE, slot, flatP, O.flat, share, frz, endO, intsOf, boolsOf, setAll, P.still, callD, callI, e_ixt, e_ixl, e_isi_int_none, e_isi_int_bool, e_isi_int_int, e_isi_int_str, e_isi_int_list, e_isi_int_tuple, e_isi_int_dict, e_isi_bool_none, e_isi_bool_bool, e_isi_bool_int, e_isi_bool_str, e_isi_bool_list, e_isi_bool_tuple, e_isi_bool_dict, e_isi_str_none, e_isi_str_bool, e_isi_str_int, e_isi_str_str, e_isi_str_list, e_isi_str_tuple, e_isi_str_dict, e_isi_tuple_none, e_isi_tuple_bool, e_isi_tuple_int, e_isi_tuple_str, e_isi_tuple_list, e_isi_tuple_tuple, e_isi_tuple_dict, e_isi_list_none, e_isi_list_bool, e_isi_list_int, e_isi_list_str, e_isi_list_list, e_isi_list_tuple, e_isi_list_dict, e_isi_dict_none, e_isi_dict_bool, e_isi_dict_int, e_isi_dict_str, e_isi_dict_list, e_isi_dict_tuple, e_isi_dict_dict, e_isN_none, e_isN_bool, e_isN_int, e_isN_str, e_isN_list, e_isN_tuple, e_isN_dict, e_tr_none, e_tr_bool, e_tr_int, e_tr_tuple, e_tr_list, e_row_tuple, e_row_list, e_sl_tuple, e_sl_list, e_set_name, e_set_tup, e_eq_ss, e_ne_ss, e_eqa_none, e_eqb_none, e_nea_none, e_neb_none, e_eqa_bool, e_eqb_bool, e_nea_bool, e_neb_bool, e_eqa_int, e_eqb_int, e_nea_int, e_neb_int, e_eqa_list, e_eqb_list, e_nea_list, e_neb_list, e_eqa_tuple, e_eqb_tuple, e_nea_tuple, e_neb_tuple, e_eqa_dict, e_eqb_dict, e_nea_dict, e_neb_dict, e_lt, e_le, e_gt, e_ge, e_isin, e_notin, e_is, e_isnt, e_add_ii, e_add_ss, e_add_tt, e_add_ll, e_sub_ii, e_mul_ii, e_mul_ti, e_mul_li, e_fdiv_ii, e_mod_ii, e_pow_ii, e_len_t, e_len_l, e_int_i, e_int_b, e_max_ii, e_min_ii, e_max_l, e_min_l, e_max_t, e_min_t, e_sum_l, e_sum_t, e_all_l, e_any_l, e_tuple_l, e_tuple_t, e_list_l, e_list_t, e_repr_d, e_divmod_ii, e_sorted_l, e_aug_add, e_aug_sub, h1, this]
theorem ev_is_whole_n (x l : Int) : M_is_whole [.int x, .int l, .none] = some (.ok (.bool (decide (l ≤ x)))) := by
  unfold M_is_whole
  by_cases h1 : x < l
  · have : ¬ l ≤ x := by omega
    simp [runPure, runIo, runMk, b_is_whole, p_is_whole_1, p_is_whole_2, mv, setOs, lim, targets, flats, tup, startE, slot, flatP, O.flat, share, frz, endO, intsOf, boolsOf, setAll, P.still, callD, callI, e_ixt, e_ixl, e_isi_int_none, e_isi_int_bool, e_isi_int_int, e_isi_int_str, e_isi_int_list, e_isi_int_tuple, e_isi_int_dict, e_isi_bool_none, e_isi_bool_bool, e_isi_bool_int, e_isi_bool_str, e_isi_bool_list, e_isi_bool_tuple, e_isi_bool_dict, e_isi_str_none, e_isi_str_bool, e_isi_str_int, e_isi_str_str, e_isi_str_list, e_isi_str_tuple, e_isi_str_dict, e_isi_tuple_none, e_isi_tuple_bool, e_isi_tuple_int, e_isi_tuple_str, e_isi_tuple_list, e_isi_tuple_tuple, e_isi_tuple_dict, e_isi_list_none, e_isi_list_bool, e_isi_list_int, e_isi_list_str, e_isi_list_list, e_isi_list_tuple, e_isi_list_dict, e_isi_dict_none, e_isi_dict_bool, e_isi_dict_int, e_isi_dict_str, e_isi_dict_list, e_isi_dict_tuple, e_isi_dict_dict, e_isN_none, e_isN_bool, e_isN_int, e_isN_str, e_isN_list, e_isN_tuple, e_isN_dict, e_tr_none, e_tr_bool, e_tr_int, e_tr_tuple, e_tr_list, e_row_tuple, e_row_list, e_sl_tuple, e_sl_list, e_set_name, e_set_tup, e_eq_ss, e_ne_ss, e_eqa_none, e_eqb_none, e_nea_none, e_neb_none, e_eqa_bool, e_eqb_bool, e_nea_bool, e_neb_bool, e_eqa_int, e_eqb_int, e_nea_int, e_neb_int, e_eqa_list, e_eqb_list, e_nea_list, e_neb_list, e_eqa_tuple, e_eqb_tuple, e_nea_tuple, e_neb_tuple, e_eqa_dict, e_eqb_dict, e_nea_dict, e_neb_dict, e_lt, e_le, e_gt, e_ge, e_isin, e_notin, e_is, e_isnt, e_add_ii, e_add_ss, e_add_tt, e_add_ll, e_sub_ii, e_mul_ii, e_mul_ti, e_mul_li, e_fdiv_ii, e_mod_ii, e_pow_ii, e_len_t, e_len_l, e_int_i, e_int_b, e_max_ii, e_min_ii, e_max_l, e_min_l, e_max_t, e_min_t, e_sum_l, e_sum_t, e_all_l, e_any_l, e_tuple_l, e_tuple_t, e_list_l, e_list_t, e_repr_d, e_divmod_ii, e_sorted_l, e_aug_add, e_aug_sub, h1, this]
  · have : l ≤ x := by omega
    simp [runPure, runIo, runMk, b_is_whole, p_is_whole_1, p_is_whole_2, mv, setOs, lim, targets, flats, tup, startE, slot, flatP, O.flat, share, frz, endO, intsOf, boolsOf, setAll, P.still, callD, callI, e_ixt, e_ixl, e_isi_int_none, e_isi_int_bool, e_isi_int_int, e_isi_int_str, e_isi_int_list, e_isi_int_tuple, e_isi_int_dict, e_isi_bool_none, e_isi_bool_bool, e_isi_bool_int, e_isi_bool_str, e_isi_bool_list, e_isi_bool_tuple, e_isi_bool_dict, e_isi_str_none, e_isi_str_bool, e_isi_str_int, e_isi_str_str, e_isi_str_list, e_isi_str_tuple, e_isi_str_dict, e_isi_tuple_none, e_isi_tuple_bool, e_isi_tuple_int, e_isi_tuple_str, e_isi_tuple_list, e_isi_tuple_tuple, e_isi_tuple_dict, e_isi_list_none, e_isi_list_bool, e_isi_list_int, e_isi_list_str, e_isi_list_list, e_isi_list_tuple, e_isi_list_dict, e_isi_dict_none, e_isi_dict_bool, e_isi_dict_int, e_isi_dict_str, e_isi_dict_list, e_isi_dict_tuple, e_isi_dict_dict, e_isN_none, e_isN_bool, e_isN_int, e_isN_str, e_isN_list, e_isN_tuple, e_isN_dict, e_tr_none, e_tr_bool, e_tr_int, e_tr_tuple, e_tr_list, e_row_tuple, e_row_list, e_sl_tuple, e_sl_list, e_set_name, e_set_tup, e_eq_ss, e_ne_ss, e_eqa_none, e_eqb_none, e_nea_none, e_neb_none, e_eqa_bool, e_eqb_bool, e_nea_bool, e_neb_bool, e_eqa_int, e_eqb_int, e_nea_int, e_neb_int, e_eqa_list, e_eqb_list, e_nea_list, e_neb_list, e_eqa_tuple, e_eqb_tuple, e_nea_tuple, e_neb_tuple, e_eqa_dict, e_eqb_dict, e_nea_dict, e_neb_dict, e_lt, e_le, e_gt, e_ge, e_isin, e_notin, e_is, e_isnt, e_add_ii, e_add_ss, e_add_tt, e_add_ll, e_sub_ii, e_mul_ii, e_mul_ti, e_mul_li, e_fdiv_ii, e_mod_ii, e_pow_ii, e_len_t, e_len_l, e_int_i, e_int_b, e_max_ii, e_min_ii, e_max_l, e_min_l, e_max_t, e_min_t, e_sum_l, e_sum_t, e_all_l, e_any_l, e_tuple_l, e_tuple_t, e_list_l, e_list_t, e_repr_d, e_divmod_ii, e_sorted_l, e_aug_add, e_aug_sub, h1, this]
theorem ev_is_whole_b (b : Bool) (l h : D) : M_is_whole [.bool b, l, h] = some (.ok (.bool false)) := by
  unfold M_is_whole
  simp [runPure, runIo, runMk, b_is_whole, p_is_whole_1, p_is_whole_2, mv, setOs, lim, targets, flats, tup, startE, slot, flatP, O.flat, share, frz, endO, intsOf, boolsOf, setAll, P.still, callD, callI, e_ixt, e_ixl, e_isi_int_none, e_isi_int_bool, e_isi_int_int, e_isi_int_str, e_isi_int_list, e_isi_int_tuple, e_isi_int_dict, e_isi_bool_none, e_isi_bool_bool, e_isi_bool_int, e_isi_bool_str, e_isi_bool_list, e_isi_bool_tuple, e_isi_bool_dict, e_isi_str_none, e_isi_str_bool, e_isi_str_int, e_isi_str_str, e_isi_str_list, e_isi_str_tuple, e_isi_str_dict, e_isi_tuple_none, e_isi_tuple_bool, e_isi_tuple_int, e_isi_tuple_str, e_isi_tuple_list, e_isi_tuple_tuple, e_isi_tuple_dict, e_isi_list_none, e_isi_list_bool, e_isi_list_int, e_isi_list_str, e_isi_list_list, e_isi_list_tuple, e_isi_list_dict, e_isi_dict_none, e_isi_dict_bool, e_isi_dict_int, e_isi_dict_str, e_isi_dict_list, e_isi_dict_tuple, e_isi_dict_dict, e_isN_none, e_isN_bool, e_isN_int, e_isN_str, e_isN_list, e_isN_tuple, e_isN_dict, e_tr_none, e_tr_bool, e_tr_int, e_tr_tuple, e_tr_list, e_row_tuple, e_row_list, e_sl_tuple, e_sl_list, e_set_name, e_set_tup, e_eq_ss, e_ne_ss, e_eqa_none, e_eqb_none, e_nea_none, e_neb_none, e_eqa_bool, e_eqb_bool, e_nea_bool, e_neb_bool, e_eqa_int, e_eqb_int, e_nea_int, e_neb_int, e_eqa_list, e_eqb_list, e_nea_list, e_neb_list, e_eqa_tuple, e_eqb_tuple, e_nea_tuple, e_neb_tuple, e_eqa_dict, e_eqb_dict, e_nea_dict, e_neb_dict, e_lt, e_le, e_gt, e_ge, e_isin, e_notin, e_is, e_isnt, e_add_ii, e_add_ss, e_add_tt, e_add_ll, e_sub_ii, e_mul_ii, e_mul_ti, e_mul_li, e_fdiv_ii, e_mod_ii, e_pow_ii, e_len_t, e_len_l, e_int_i, e_int_b, e_max_ii, e_min_ii, e_max_l, e_min_l, e_max_t, e_min_t, e_sum_l, e_sum_t, e_all_l, e_any_l, e_tuple_l, e_tuple_t, e_list_l, e_list_t, e_repr_d, e_divmod_ii, e_sorted_l, e_aug_add, e_aug_sub]
theorem ev_is_head {r : Rl × Nat} (h : rowOk r) : M_is_head [hd r] = some (.ok (.bool true)) := by
  obtain ⟨h2, h1⟩ := h
  have h2' : (r.2 : Int) ≤ 2 := by omega
  unfold M_is_head
  by_cases ha : r.1 = .on ∨ r.1 = .off
  · have h1' : (1 : Int) ≤ (r.2 : Int) := by have := h1 ha; omega
    simp [runPure, runIo, runMk, b_is_head, p_is_head_1, p_is_head_2, p_is_head_3, f_is_head__ON, f_is_head__OFF, f_is_head__is_whole, f_is_head__MOST_LONG, f_is_head__QUIET, f_is_head__OTHER, mv, setOs, lim, targets, flats, tup, startE, slot, flatP, O.flat, share, frz, endO, intsOf, boolsOf, setAll, P.still, callD, callI, e_ixt, e_ixl, e_isi_int_none, e_isi_int_bool, e_isi_int_int, e_isi_int_str, e_isi_int_list, e_isi_int_tuple, e_isi_int_dict, e_isi_bool_none, e_isi_bool_bool, e_isi_bool_int, e_isi_bool_str, e_isi_bool_list, e_isi_bool_tuple, e_isi_bool_dict, e_isi_str_none, e_isi_str_bool, e_isi_str_int, e_isi_str_str, e_isi_str_list, e_isi_str_tuple, e_isi_str_dict, e_isi_tuple_none, e_isi_tuple_bool, e_isi_tuple_int, e_isi_tuple_str, e_isi_tuple_list, e_isi_tuple_tuple, e_isi_tuple_dict, e_isi_list_none, e_isi_list_bool, e_isi_list_int, e_isi_list_str, e_isi_list_list, e_isi_list_tuple, e_isi_list_dict, e_isi_dict_none, e_isi_dict_bool, e_isi_dict_int, e_isi_dict_str, e_isi_dict_list, e_isi_dict_tuple, e_isi_dict_dict, e_isN_none, e_isN_bool, e_isN_int, e_isN_str, e_isN_list, e_isN_tuple, e_isN_dict, e_tr_none, e_tr_bool, e_tr_int, e_tr_tuple, e_tr_list, e_row_tuple, e_row_list, e_sl_tuple, e_sl_list, e_set_name, e_set_tup, e_eq_ss, e_ne_ss, e_eqa_none, e_eqb_none, e_nea_none, e_neb_none, e_eqa_bool, e_eqb_bool, e_nea_bool, e_neb_bool, e_eqa_int, e_eqb_int, e_nea_int, e_neb_int, e_eqa_list, e_eqb_list, e_nea_list, e_neb_list, e_eqa_tuple, e_eqb_tuple, e_nea_tuple, e_neb_tuple, e_eqa_dict, e_eqb_dict, e_nea_dict, e_neb_dict, e_lt, e_le, e_gt, e_ge, e_isin, e_notin, e_is, e_isnt, e_add_ii, e_add_ss, e_add_tt, e_add_ll, e_sub_ii, e_mul_ii, e_mul_ti, e_mul_li, e_fdiv_ii, e_mod_ii, e_pow_ii, e_len_t, e_len_l, e_int_i, e_int_b, e_max_ii, e_min_ii, e_max_l, e_min_l, e_max_t, e_min_t, e_sum_l, e_sum_t, e_all_l, e_any_l, e_tuple_l, e_tuple_t, e_list_l, e_list_t, e_repr_d, e_divmod_ii, e_sorted_l, e_aug_add, e_aug_sub, ev_is_whole, has_oo, ha, h1', h2']
  · have hq : r.1 = .quiet ∨ r.1 = .other := by cases h : r.1 <;> simp [h] at ha ⊢
    have h0 : (0 : Int) ≤ (r.2 : Int) := by omega
    simp [runPure, runIo, runMk, b_is_head, p_is_head_1, p_is_head_2, p_is_head_3, f_is_head__ON, f_is_head__OFF, f_is_head__is_whole, f_is_head__MOST_LONG, f_is_head__QUIET, f_is_head__OTHER, mv, setOs, lim, targets, flats, tup, startE, slot, flatP, O.flat, share, frz, endO, intsOf, boolsOf, setAll, P.still, callD, callI, e_ixt, e_ixl, e_isi_int_none, e_isi_int_bool, e_isi_int_int, e_isi_int_str, e_isi_int_list, e_isi_int_tuple, e_isi_int_dict, e_isi_bool_none, e_isi_bool_bool, e_isi_bool_int, e_isi_bool_str, e_isi_bool_list, e_isi_bool_tuple, e_isi_bool_dict, e_isi_str_none, e_isi_str_bool, e_isi_str_int, e_isi_str_str, e_isi_str_list, e_isi_str_tuple, e_isi_str_dict, e_isi_tuple_none, e_isi_tuple_bool, e_isi_tuple_int, e_isi_tuple_str, e_isi_tuple_list, e_isi_tuple_tuple, e_isi_tuple_dict, e_isi_list_none, e_isi_list_bool, e_isi_list_int, e_isi_list_str, e_isi_list_list, e_isi_list_tuple, e_isi_list_dict, e_isi_dict_none, e_isi_dict_bool, e_isi_dict_int, e_isi_dict_str, e_isi_dict_list, e_isi_dict_tuple, e_isi_dict_dict, e_isN_none, e_isN_bool, e_isN_int, e_isN_str, e_isN_list, e_isN_tuple, e_isN_dict, e_tr_none, e_tr_bool, e_tr_int, e_tr_tuple, e_tr_list, e_row_tuple, e_row_list, e_sl_tuple, e_sl_list, e_set_name, e_set_tup, e_eq_ss, e_ne_ss, e_eqa_none, e_eqb_none, e_nea_none, e_neb_none, e_eqa_bool, e_eqb_bool, e_nea_bool, e_neb_bool, e_eqa_int, e_eqb_int, e_nea_int, e_neb_int, e_eqa_list, e_eqb_list, e_nea_list, e_neb_list, e_eqa_tuple, e_eqb_tuple, e_nea_tuple, e_neb_tuple, e_eqa_dict, e_eqb_dict, e_nea_dict, e_neb_dict, e_lt, e_le, e_gt, e_ge, e_isin, e_notin, e_is, e_isnt, e_add_ii, e_add_ss, e_add_tt, e_add_ll, e_sub_ii, e_mul_ii, e_mul_ti, e_mul_li, e_fdiv_ii, e_mod_ii, e_pow_ii, e_len_t, e_len_l, e_int_i, e_int_b, e_max_ii, e_min_ii, e_max_l, e_min_l, e_max_t, e_min_t, e_sum_l, e_sum_t, e_all_l, e_any_l, e_tuple_l, e_tuple_t, e_list_l, e_list_t, e_repr_d, e_divmod_ii, e_sorted_l, e_aug_add, e_aug_sub, ev_is_whole, has_oo, has_qo, ha, hq, h0, h2']
theorem ev_need_language {hs : Hs} {n m : Nat} (L : LOk hs n m) : M_need_language [lang hs n m] = some (.ok (lang hs n m)) := by
  unfold M_need_language
  have hc : compL (compTurn [2] (setT (.name 2)) (evalT G_need_language .yes) (evalE G_need_language p_need_language_3)) (hs.map hd) [some (.fz (lang hs n m)), some (.fz (.tuple (hs.map hd))), none] = some (.ok (hs.map fun _ => PyData.bool true) [some (.fz (lang hs n m)), some (.fz (.tuple (hs.map hd))), none]) := by
    refine compL_fun _ _ fun r hr => ?_
    simp [compTurn, p_need_language_3, mv, setOs, lim, targets, flats, tup, startE, slot, flatP, O.flat, share, frz, endO, intsOf, boolsOf, setAll, P.still, callD, callI, e_ixt, e_ixl, e_isi_int_none, e_isi_int_bool, e_isi_int_int, e_isi_int_str, e_isi_int_list, e_isi_int_tuple, e_isi_int_dict, e_isi_bool_none, e_isi_bool_bool, e_isi_bool_int, e_isi_bool_str, e_isi_bool_list, e_isi_bool_tuple, e_isi_bool_dict, e_isi_str_none, e_isi_str_bool, e_isi_str_int, e_isi_str_str, e_isi_str_list, e_isi_str_tuple, e_isi_str_dict, e_isi_tuple_none, e_isi_tuple_bool, e_isi_tuple_int, e_isi_tuple_str, e_isi_tuple_list, e_isi_tuple_tuple, e_isi_tuple_dict, e_isi_list_none, e_isi_list_bool, e_isi_list_int, e_isi_list_str, e_isi_list_list, e_isi_list_tuple, e_isi_list_dict, e_isi_dict_none, e_isi_dict_bool, e_isi_dict_int, e_isi_dict_str, e_isi_dict_list, e_isi_dict_tuple, e_isi_dict_dict, e_isN_none, e_isN_bool, e_isN_int, e_isN_str, e_isN_list, e_isN_tuple, e_isN_dict, e_tr_none, e_tr_bool, e_tr_int, e_tr_tuple, e_tr_list, e_row_tuple, e_row_list, e_sl_tuple, e_sl_list, e_set_name, e_set_tup, e_eq_ss, e_ne_ss, e_eqa_none, e_eqb_none, e_nea_none, e_neb_none, e_eqa_bool, e_eqb_bool, e_nea_bool, e_neb_bool, e_eqa_int, e_eqb_int, e_nea_int, e_neb_int, e_eqa_list, e_eqb_list, e_nea_list, e_neb_list, e_eqa_tuple, e_eqb_tuple, e_nea_tuple, e_neb_tuple, e_eqa_dict, e_eqb_dict, e_nea_dict, e_neb_dict, e_lt, e_le, e_gt, e_ge, e_isin, e_notin, e_is, e_isnt, e_add_ii, e_add_ss, e_add_tt, e_add_ll, e_sub_ii, e_mul_ii, e_mul_ti, e_mul_li, e_fdiv_ii, e_mod_ii, e_pow_ii, e_len_t, e_len_l, e_int_i, e_int_b, e_max_ii, e_min_ii, e_max_l, e_min_l, e_max_t, e_min_t, e_sum_l, e_sum_t, e_all_l, e_any_l, e_tuple_l, e_tuple_t, e_list_l, e_list_t, e_repr_d, e_divmod_ii, e_sorted_l, e_aug_add, e_aug_sub, f_need_language__is_head, ev_is_head (L.hr r hr), wipeO, frOk, wipeE]
  have e2 : (hs.map fun _ => PyData.bool true) = (List.replicate hs.length true).map PyData.bool := by
    rw [List.map_replicate]
    exact List.map_const' ..
  have a1 : (1 : Int) ≤ hs.length := by have := L.h1; omega
  have a2 : (hs.length : Int) ≤ 4 := by have := L.h4; omega
  have a3 : (1 : Int) ≤ n := by have := L.n1; omega
  have a4 : (n : Int) ≤ 4 := by have := L.n4; omega
  have a5 : (0 : Int) ≤ m := by omega
  have a6 : (m : Int) ≤ 2 := by have := L.m2; omega
  have a7 : hs.length ≤ 16777216 := by have := L.h4; omega
  simp [runPure, runIo, runMk, b_need_language, p_need_language_1, p_need_language_2, p_need_language_4, p_need_language_5, p_need_language_6, p_need_language_7, f_need_language__is_whole, f_need_language__MOST_NOTES, f_need_language__MOST_MOMENTS, f_need_language__MOST_HEADS, f_need_language__is_head, mv, setOs, lim, targets, flats, tup, startE, slot, flatP, O.flat, share, frz, endO, intsOf, boolsOf, setAll, P.still, callD, callI, e_ixt, e_ixl, e_isi_int_none, e_isi_int_bool, e_isi_int_int, e_isi_int_str, e_isi_int_list, e_isi_int_tuple, e_isi_int_dict, e_isi_bool_none, e_isi_bool_bool, e_isi_bool_int, e_isi_bool_str, e_isi_bool_list, e_isi_bool_tuple, e_isi_bool_dict, e_isi_str_none, e_isi_str_bool, e_isi_str_int, e_isi_str_str, e_isi_str_list, e_isi_str_tuple, e_isi_str_dict, e_isi_tuple_none, e_isi_tuple_bool, e_isi_tuple_int, e_isi_tuple_str, e_isi_tuple_list, e_isi_tuple_tuple, e_isi_tuple_dict, e_isi_list_none, e_isi_list_bool, e_isi_list_int, e_isi_list_str, e_isi_list_list, e_isi_list_tuple, e_isi_list_dict, e_isi_dict_none, e_isi_dict_bool, e_isi_dict_int, e_isi_dict_str, e_isi_dict_list, e_isi_dict_tuple, e_isi_dict_dict, e_isN_none, e_isN_bool, e_isN_int, e_isN_str, e_isN_list, e_isN_tuple, e_isN_dict, e_tr_none, e_tr_bool, e_tr_int, e_tr_tuple, e_tr_list, e_row_tuple, e_row_list, e_sl_tuple, e_sl_list, e_set_name, e_set_tup, e_eq_ss, e_ne_ss, e_eqa_none, e_eqb_none, e_nea_none, e_neb_none, e_eqa_bool, e_eqb_bool, e_nea_bool, e_neb_bool, e_eqa_int, e_eqb_int, e_nea_int, e_neb_int, e_eqa_list, e_eqb_list, e_nea_list, e_neb_list, e_eqa_tuple, e_eqb_tuple, e_nea_tuple, e_neb_tuple, e_eqa_dict, e_eqb_dict, e_nea_dict, e_neb_dict, e_lt, e_le, e_gt, e_ge, e_isin, e_notin, e_is, e_isnt, e_add_ii, e_add_ss, e_add_tt, e_add_ll, e_sub_ii, e_mul_ii, e_mul_ti, e_mul_li, e_fdiv_ii, e_mod_ii, e_pow_ii, e_len_t, e_len_l, e_int_i, e_int_b, e_max_ii, e_min_ii, e_max_l, e_min_l, e_max_t, e_min_t, e_sum_l, e_sum_t, e_all_l, e_any_l, e_tuple_l, e_tuple_t, e_list_l, e_list_t, e_repr_d, e_divmod_ii, e_sorted_l, e_aug_add, e_aug_sub, ev_is_whole, a1, a2, a3, a4, a5, a6, a7, tgIn, frOk, wipeE, hc, e2, backE]
theorem ev_long_of_n (hs : Hs) (n m : Nat) : M_long_of [lang hs n m, .int (-1)] = some (.ok (.int 0)) := by
  unfold M_long_of
  simp [runPure, runIo, runMk, b_long_of, mv, setOs, lim, targets, flats, tup, startE, slot, flatP, O.flat, share, frz, endO, intsOf, boolsOf, setAll, P.still, callD, callI, e_ixt, e_ixl, e_isi_int_none, e_isi_int_bool, e_isi_int_int, e_isi_int_str, e_isi_int_list, e_isi_int_tuple, e_isi_int_dict, e_isi_bool_none, e_isi_bool_bool, e_isi_bool_int, e_isi_bool_str, e_isi_bool_list, e_isi_bool_tuple, e_isi_bool_dict, e_isi_str_none, e_isi_str_bool, e_isi_str_int, e_isi_str_str, e_isi_str_list, e_isi_str_tuple, e_isi_str_dict, e_isi_tuple_none, e_isi_tuple_bool, e_isi_tuple_int, e_isi_tuple_str, e_isi_tuple_list, e_isi_tuple_tuple, e_isi_tuple_dict, e_isi_list_none, e_isi_list_bool, e_isi_list_int, e_isi_list_str, e_isi_list_list, e_isi_list_tuple, e_isi_list_dict, e_isi_dict_none, e_isi_dict_bool, e_isi_dict_int, e_isi_dict_str, e_isi_dict_list, e_isi_dict_tuple, e_isi_dict_dict, e_isN_none, e_isN_bool, e_isN_int, e_isN_str, e_isN_list, e_isN_tuple, e_isN_dict, e_tr_none, e_tr_bool, e_tr_int, e_tr_tuple, e_tr_list, e_row_tuple, e_row_list, e_sl_tuple, e_sl_list, e_set_name, e_set_tup, e_eq_ss, e_ne_ss, e_eqa_none, e_eqb_none, e_nea_none, e_neb_none, e_eqa_bool, e_eqb_bool, e_nea_bool, e_neb_bool, e_eqa_int, e_eqb_int, e_nea_int, e_neb_int, e_eqa_list, e_eqb_list, e_nea_list, e_neb_list, e_eqa_tuple, e_eqb_tuple, e_nea_tuple, e_neb_tuple, e_eqa_dict, e_eqb_dict, e_nea_dict, e_neb_dict, e_lt, e_le, e_gt, e_ge, e_isin, e_notin, e_is, e_isnt, e_add_ii, e_add_ss, e_add_tt, e_add_ll, e_sub_ii, e_mul_ii, e_mul_ti, e_mul_li, e_fdiv_ii, e_mod_ii, e_pow_ii, e_len_t, e_len_l, e_int_i, e_int_b, e_max_ii, e_min_ii, e_max_l, e_min_l, e_max_t, e_min_t, e_sum_l, e_sum_t, e_all_l, e_any_l, e_tuple_l, e_tuple_t, e_list_l, e_list_t, e_repr_d, e_divmod_ii, e_sorted_l, e_aug_add, e_aug_sub]
theorem ev_long_of {hs : Hs} {k : Nat} (n m : Nat) (hk : k < hs.length) : M_long_of [lang hs n m, .int (k : Nat)] = some (.ok (.int ((rw' hs k).2 : Nat))) := by
  unfold M_long_of
  have : ¬ ((k : Int) = -1) := by omega
  simp [runPure, runIo, runMk, b_long_of, mv, setOs, lim, targets, flats, tup, startE, slot, flatP, O.flat, share, frz, endO, intsOf, boolsOf, setAll, P.still, callD, callI, e_ixt, e_ixl, e_isi_int_none, e_isi_int_bool, e_isi_int_int, e_isi_int_str, e_isi_int_list, e_isi_int_tuple, e_isi_int_dict, e_isi_bool_none, e_isi_bool_bool, e_isi_bool_int, e_isi_bool_str, e_isi_bool_list, e_isi_bool_tuple, e_isi_bool_dict, e_isi_str_none, e_isi_str_bool, e_isi_str_int, e_isi_str_str, e_isi_str_list, e_isi_str_tuple, e_isi_str_dict, e_isi_tuple_none, e_isi_tuple_bool, e_isi_tuple_int, e_isi_tuple_str, e_isi_tuple_list, e_isi_tuple_tuple, e_isi_tuple_dict, e_isi_list_none, e_isi_list_bool, e_isi_list_int, e_isi_list_str, e_isi_list_list, e_isi_list_tuple, e_isi_list_dict, e_isi_dict_none, e_isi_dict_bool, e_isi_dict_int, e_isi_dict_str, e_isi_dict_list, e_isi_dict_tuple, e_isi_dict_dict, e_isN_none, e_isN_bool, e_isN_int, e_isN_str, e_isN_list, e_isN_tuple, e_isN_dict, e_tr_none, e_tr_bool, e_tr_int, e_tr_tuple, e_tr_list, e_row_tuple, e_row_list, e_sl_tuple, e_sl_list, e_set_name, e_set_tup, e_eq_ss, e_ne_ss, e_eqa_none, e_eqb_none, e_nea_none, e_neb_none, e_eqa_bool, e_eqb_bool, e_nea_bool, e_neb_bool, e_eqa_int, e_eqb_int, e_nea_int, e_neb_int, e_eqa_list, e_eqb_list, e_nea_list, e_neb_list, e_eqa_tuple, e_eqb_tuple, e_nea_tuple, e_neb_tuple, e_eqa_dict, e_eqb_dict, e_nea_dict, e_neb_dict, e_lt, e_le, e_gt, e_ge, e_isin, e_notin, e_is, e_isnt, e_add_ii, e_add_ss, e_add_tt, e_add_ll, e_sub_ii, e_mul_ii, e_mul_ti, e_mul_li, e_fdiv_ii, e_mod_ii, e_pow_ii, e_len_t, e_len_l, e_int_i, e_int_b, e_max_ii, e_min_ii, e_max_l, e_min_l, e_max_t, e_min_t, e_sum_l, e_sum_t, e_all_l, e_any_l, e_tuple_l, e_tuple_t, e_list_l, e_list_t, e_repr_d, e_divmod_ii, e_sorted_l, e_aug_add, e_aug_sub, this, at_hd hk]
/-! signs -/
inductive Sg | head (k : Nat) | value (v : Nat) | moment (k : Nat)
  deriving DecidableEq
def Sg.d : Sg → D
  | .head k => .tuple [.str "head", .int (k : Nat)]
  | .value k => .tuple [.str "value", .int (k : Nat)]
  | .moment k => .tuple [.str "moment", .int (k : Nat)]
def Sg.w : Sg → Str
  | .head _ => "head" | .value _ => "value" | .moment _ => "moment"
def Sg.k : Sg → Nat
  | .head k => k | .value k => k | .moment k => k
def sgOk (hs : Hs) (n m : Nat) : Sg → Prop
  | .head k => k < hs.length
  | .value v => v < n
  | .moment k => k < m
@[simp] theorem sg_ix0 (s : Sg) : ixD s.d (.int 0) = some (.str s.w) := by cases s <;> simp [Sg.d, Sg.w, ixD]
@[simp] theorem sg_ix1 (s : Sg) : ixD s.d (.int 1) = some (.int (s.k : Nat)) := by cases s <;> simp [Sg.d, Sg.k, ixD]
@[simp] theorem sg_isi (s : Sg) : isiD .tuple s.d = true := by cases s <;> rfl
@[simp] theorem sg_len (s : Sg) : biO .len [s.d] = some (.fz (.int 2)) := by cases s <;> rfl
@[simp] theorem sg_w_head (k : Nat) : (Sg.head k).w = "head" := rfl
@[simp] theorem sg_w_value (k : Nat) : (Sg.value k).w = "value" := rfl
@[simp] theorem sg_w_moment (k : Nat) : (Sg.moment k).w = "moment" := rfl
@[simp] theorem sg_k_head (k : Nat) : (Sg.head k).k = k := rfl
@[simp] theorem sg_k_value (k : Nat) : (Sg.value k).k = k := rfl
@[simp] theorem sg_k_moment (k : Nat) : (Sg.moment k).k = k := rfl
theorem fine_sg {hs : Hs} {n m : Nat} (L : LOk hs n m) {s : Sg} (h : sgOk hs n m s) : Fine 1 200 s.d := by
  have h4 := L.h4
  have n4 := L.n4
  have m2 := L.m2
  cases s <;> simp only [sgOk] at h <;> refine Fine.tuple (k := 0) (c := 65) (N := 2) (fun x hx => ?_) (by simp) (by omega) <;>
    (simp only [List.mem_cons, List.not_mem_nil, or_false] at hx
     rcases hx with rfl | rfl
     · exact Fine.str (by decide +kernel) (by decide +kernel)
     · exact Fine.nat (by omega))
def sgs (hs : Hs) (n m : Nat) : List Sg := (List.range hs.length).map .head ++ (List.range m).map .moment ++ (List.range n).map .value
theorem sgs_mem {hs : Hs} {n m : Nat} {s : Sg} : s ∈ sgs hs n m ↔ sgOk hs n m s := by
  unfold sgs
  cases s <;> simp [sgOk]
theorem sgs_len {hs : Hs} {n m : Nat} : (sgs hs n m).length = hs.length + m + n := by
  simp [sgs]; omega
theorem ev_signs_of {hs : Hs} {n m : Nat} (L : LOk hs n m) : M_signs_of [lang hs n m] = some (.ok (.list ((sgs hs n m).map Sg.d))) := by
  unfold M_signs_of
  have h4 := L.h4
  have n4 := L.n4
  have m2 := L.m2
  have k1 (x2 : Option O) : compL (compTurn [1] (setT (.name 1)) (evalT G_signs_of .yes) (evalE G_signs_of p_signs_of_1)) (rangeD 0 hs.length) [some (.fz (lang hs n m)), none, x2] = some (.ok ((List.range hs.length).map fun k => (Sg.head k).d) [some (.fz (lang hs n m)), none, x2]) := by
    rw [rangeD_zero]
    refine compL_fun _ _ fun r hr => ?_
    simp [compTurn, p_signs_of_1, f_signs_of__HEAD, f_signs_of__MOMENT, f_signs_of__VALUE, mv, setOs, lim, targets, flats, tup, startE, slot, flatP, O.flat, share, frz, endO, intsOf, boolsOf, setAll, P.still, callD, callI, e_ixt, e_ixl, e_isi_int_none, e_isi_int_bool, e_isi_int_int, e_isi_int_str, e_isi_int_list, e_isi_int_tuple, e_isi_int_dict, e_isi_bool_none, e_isi_bool_bool, e_isi_bool_int, e_isi_bool_str, e_isi_bool_list, e_isi_bool_tuple, e_isi_bool_dict, e_isi_str_none, e_isi_str_bool, e_isi_str_int, e_isi_str_str, e_isi_str_list, e_isi_str_tuple, e_isi_str_dict, e_isi_tuple_none, e_isi_tuple_bool, e_isi_tuple_int, e_isi_tuple_str, e_isi_tuple_list, e_isi_tuple_tuple, e_isi_tuple_dict, e_isi_list_none, e_isi_list_bool, e_isi_list_int, e_isi_list_str, e_isi_list_list, e_isi_list_tuple, e_isi_list_dict, e_isi_dict_none, e_isi_dict_bool, e_isi_dict_int, e_isi_dict_str, e_isi_dict_list, e_isi_dict_tuple, e_isi_dict_dict, e_isN_none, e_isN_bool, e_isN_int, e_isN_str, e_isN_list, e_isN_tuple, e_isN_dict, e_tr_none, e_tr_bool, e_tr_int, e_tr_tuple, e_tr_list, e_row_tuple, e_row_list, e_sl_tuple, e_sl_list, e_set_name, e_set_tup, e_eq_ss, e_ne_ss, e_eqa_none, e_eqb_none, e_nea_none, e_neb_none, e_eqa_bool, e_eqb_bool, e_nea_bool, e_neb_bool, e_eqa_int, e_eqb_int, e_nea_int, e_neb_int, e_eqa_list, e_eqb_list, e_nea_list, e_neb_list, e_eqa_tuple, e_eqb_tuple, e_nea_tuple, e_neb_tuple, e_eqa_dict, e_eqb_dict, e_nea_dict, e_neb_dict, e_lt, e_le, e_gt, e_ge, e_isin, e_notin, e_is, e_isnt, e_add_ii, e_add_ss, e_add_tt, e_add_ll, e_sub_ii, e_mul_ii, e_mul_ti, e_mul_li, e_fdiv_ii, e_mod_ii, e_pow_ii, e_len_t, e_len_l, e_int_i, e_int_b, e_max_ii, e_min_ii, e_max_l, e_min_l, e_max_t, e_min_t, e_sum_l, e_sum_t, e_all_l, e_any_l, e_tuple_l, e_tuple_t, e_list_l, e_list_t, e_repr_d, e_divmod_ii, e_sorted_l, e_aug_add, e_aug_sub, wipeO, frOk, wipeE, Sg.d]
  have k2 (x2 : Option O) : compL (compTurn [1] (setT (.name 1)) (evalT G_signs_of .yes) (evalE G_signs_of p_signs_of_3)) (rangeD 0 m) [some (.fz (lang hs n m)), none, x2] = some (.ok ((List.range m).map fun k => (Sg.moment k).d) [some (.fz (lang hs n m)), none, x2]) := by
    rw [rangeD_zero]
    refine compL_fun _ _ fun r hr => ?_
    simp [compTurn, p_signs_of_3, f_signs_of__HEAD, f_signs_of__MOMENT, f_signs_of__VALUE, mv, setOs, lim, targets, flats, tup, startE, slot, flatP, O.flat, share, frz, endO, intsOf, boolsOf, setAll, P.still, callD, callI, e_ixt, e_ixl, e_isi_int_none, e_isi_int_bool, e_isi_int_int, e_isi_int_str, e_isi_int_list, e_isi_int_tuple, e_isi_int_dict, e_isi_bool_none, e_isi_bool_bool, e_isi_bool_int, e_isi_bool_str, e_isi_bool_list, e_isi_bool_tuple, e_isi_bool_dict, e_isi_str_none, e_isi_str_bool, e_isi_str_int, e_isi_str_str, e_isi_str_list, e_isi_str_tuple, e_isi_str_dict, e_isi_tuple_none, e_isi_tuple_bool, e_isi_tuple_int, e_isi_tuple_str, e_isi_tuple_list, e_isi_tuple_tuple, e_isi_tuple_dict, e_isi_list_none, e_isi_list_bool, e_isi_list_int, e_isi_list_str, e_isi_list_list, e_isi_list_tuple, e_isi_list_dict, e_isi_dict_none, e_isi_dict_bool, e_isi_dict_int, e_isi_dict_str, e_isi_dict_list, e_isi_dict_tuple, e_isi_dict_dict, e_isN_none, e_isN_bool, e_isN_int, e_isN_str, e_isN_list, e_isN_tuple, e_isN_dict, e_tr_none, e_tr_bool, e_tr_int, e_tr_tuple, e_tr_list, e_row_tuple, e_row_list, e_sl_tuple, e_sl_list, e_set_name, e_set_tup, e_eq_ss, e_ne_ss, e_eqa_none, e_eqb_none, e_nea_none, e_neb_none, e_eqa_bool, e_eqb_bool, e_nea_bool, e_neb_bool, e_eqa_int, e_eqb_int, e_nea_int, e_neb_int, e_eqa_list, e_eqb_list, e_nea_list, e_neb_list, e_eqa_tuple, e_eqb_tuple, e_nea_tuple, e_neb_tuple, e_eqa_dict, e_eqb_dict, e_nea_dict, e_neb_dict, e_lt, e_le, e_gt, e_ge, e_isin, e_notin, e_is, e_isnt, e_add_ii, e_add_ss, e_add_tt, e_add_ll, e_sub_ii, e_mul_ii, e_mul_ti, e_mul_li, e_fdiv_ii, e_mod_ii, e_pow_ii, e_len_t, e_len_l, e_int_i, e_int_b, e_max_ii, e_min_ii, e_max_l, e_min_l, e_max_t, e_min_t, e_sum_l, e_sum_t, e_all_l, e_any_l, e_tuple_l, e_tuple_t, e_list_l, e_list_t, e_repr_d, e_divmod_ii, e_sorted_l, e_aug_add, e_aug_sub, wipeO, frOk, wipeE, Sg.d]
  have k3 (x2 : Option O) : compL (compTurn [1] (setT (.name 1)) (evalT G_signs_of .yes) (evalE G_signs_of p_signs_of_5)) (rangeD 0 n) [some (.fz (lang hs n m)), none, x2] = some (.ok ((List.range n).map fun k => (Sg.value k).d) [some (.fz (lang hs n m)), none, x2]) := by
    rw [rangeD_zero]
    refine compL_fun _ _ fun r hr => ?_
    simp [compTurn, p_signs_of_5, f_signs_of__HEAD, f_signs_of__MOMENT, f_signs_of__VALUE, mv, setOs, lim, targets, flats, tup, startE, slot, flatP, O.flat, share, frz, endO, intsOf, boolsOf, setAll, P.still, callD, callI, e_ixt, e_ixl, e_isi_int_none, e_isi_int_bool, e_isi_int_int, e_isi_int_str, e_isi_int_list, e_isi_int_tuple, e_isi_int_dict, e_isi_bool_none, e_isi_bool_bool, e_isi_bool_int, e_isi_bool_str, e_isi_bool_list, e_isi_bool_tuple, e_isi_bool_dict, e_isi_str_none, e_isi_str_bool, e_isi_str_int, e_isi_str_str, e_isi_str_list, e_isi_str_tuple, e_isi_str_dict, e_isi_tuple_none, e_isi_tuple_bool, e_isi_tuple_int, e_isi_tuple_str, e_isi_tuple_list, e_isi_tuple_tuple, e_isi_tuple_dict, e_isi_list_none, e_isi_list_bool, e_isi_list_int, e_isi_list_str, e_isi_list_list, e_isi_list_tuple, e_isi_list_dict, e_isi_dict_none, e_isi_dict_bool, e_isi_dict_int, e_isi_dict_str, e_isi_dict_list, e_isi_dict_tuple, e_isi_dict_dict, e_isN_none, e_isN_bool, e_isN_int, e_isN_str, e_isN_list, e_isN_tuple, e_isN_dict, e_tr_none, e_tr_bool, e_tr_int, e_tr_tuple, e_tr_list, e_row_tuple, e_row_list, e_sl_tuple, e_sl_list, e_set_name, e_set_tup, e_eq_ss, e_ne_ss, e_eqa_none, e_eqb_none, e_nea_none, e_neb_none, e_eqa_bool, e_eqb_bool, e_nea_bool, e_neb_bool, e_eqa_int, e_eqb_int, e_nea_int, e_neb_int, e_eqa_list, e_eqb_list, e_nea_list, e_neb_list, e_eqa_tuple, e_eqb_tuple, e_nea_tuple, e_neb_tuple, e_eqa_dict, e_eqb_dict, e_nea_dict, e_neb_dict, e_lt, e_le, e_gt, e_ge, e_isin, e_notin, e_is, e_isnt, e_add_ii, e_add_ss, e_add_tt, e_add_ll, e_sub_ii, e_mul_ii, e_mul_ti, e_mul_li, e_fdiv_ii, e_mod_ii, e_pow_ii, e_len_t, e_len_l, e_int_i, e_int_b, e_max_ii, e_min_ii, e_max_l, e_min_l, e_max_t, e_min_t, e_sum_l, e_sum_t, e_all_l, e_any_l, e_tuple_l, e_tuple_t, e_list_l, e_list_t, e_repr_d, e_divmod_ii, e_sorted_l, e_aug_add, e_aug_sub, wipeO, frOk, wipeE, Sg.d]
  have q1 : rngOk (hs.length : Int) = true := rngOk_nat (by omega)
  have q2 : rngOk (m : Int) = true := rngOk_nat (by omega)
  have q3 : rngOk (n : Int) = true := rngOk_nat (by omega)
  have l1 : (rangeD 0 hs.length).length ≤ 16777216 := by rw [rangeD_length]; omega
  have l2 : (rangeD 0 m).length ≤ 16777216 := by rw [rangeD_length]; omega
  have l3 : (rangeD 0 n).length ≤ 16777216 := by rw [rangeD_length]; omega
  have l4 : hs.length + m ≤ 16777216 := by omega
  have l5 : hs.length + (m + n) ≤ 16777216 := by omega
  have e : (sgs hs n m).map Sg.d = ((List.range hs.length).map fun k => (Sg.head k).d) ++ (((List.range m).map fun k => (Sg.moment k).d) ++ ((List.range n).map fun k => (Sg.value k).d)) := by
    simp [sgs, Function.comp_def]
  rw [e]
  simp [runPure, b_signs_of, p_signs_of_2, p_signs_of_4, p_signs_of_6, mv, setOs, lim, targets, flats, tup, startE, slot, flatP, O.flat, share, frz, endO, intsOf, boolsOf, setAll, P.still, callD, callI, e_ixt, e_ixl, e_isi_int_none, e_isi_int_bool, e_isi_int_int, e_isi_int_str, e_isi_int_list, e_isi_int_tuple, e_isi_int_dict, e_isi_bool_none, e_isi_bool_bool, e_isi_bool_int, e_isi_bool_str, e_isi_bool_list, e_isi_bool_tuple, e_isi_bool_dict, e_isi_str_none, e_isi_str_bool, e_isi_str_int, e_isi_str_str, e_isi_str_list, e_isi_str_tuple, e_isi_str_dict, e_isi_tuple_none, e_isi_tuple_bool, e_isi_tuple_int, e_isi_tuple_str, e_isi_tuple_list, e_isi_tuple_tuple, e_isi_tuple_dict, e_isi_list_none, e_isi_list_bool, e_isi_list_int, e_isi_list_str, e_isi_list_list, e_isi_list_tuple, e_isi_list_dict, e_isi_dict_none, e_isi_dict_bool, e_isi_dict_int, e_isi_dict_str, e_isi_dict_list, e_isi_dict_tuple, e_isi_dict_dict, e_isN_none, e_isN_bool, e_isN_int, e_isN_str, e_isN_list, e_isN_tuple, e_isN_dict, e_tr_none, e_tr_bool, e_tr_int, e_tr_tuple, e_tr_list, e_row_tuple, e_row_list, e_sl_tuple, e_sl_list, e_set_name, e_set_tup, e_eq_ss, e_ne_ss, e_eqa_none, e_eqb_none, e_nea_none, e_neb_none, e_eqa_bool, e_eqb_bool, e_nea_bool, e_neb_bool, e_eqa_int, e_eqb_int, e_nea_int, e_neb_int, e_eqa_list, e_eqb_list, e_nea_list, e_neb_list, e_eqa_tuple, e_eqb_tuple, e_nea_tuple, e_neb_tuple, e_eqa_dict, e_eqb_dict, e_nea_dict, e_neb_dict, e_lt, e_le, e_gt, e_ge, e_isin, e_notin, e_is, e_isnt, e_add_ii, e_add_ss, e_add_tt, e_add_ll, e_sub_ii, e_mul_ii, e_mul_ti, e_mul_li, e_fdiv_ii, e_mod_ii, e_pow_ii, e_len_t, e_len_l, e_int_i, e_int_b, e_max_ii, e_min_ii, e_max_l, e_min_l, e_max_t, e_min_t, e_sum_l, e_sum_t, e_all_l, e_any_l, e_tuple_l, e_tuple_t, e_list_l, e_list_t, e_repr_d, e_divmod_ii, e_sorted_l, e_aug_add, e_aug_sub, tgIn, frOk, wipeE, backE, k1, k2, k3, q1, q2, q3, l1, l2, l3, l4, l5, Nat.add_assoc]
theorem fine_sgs {hs : Hs} {n m : Nat} (L : LOk hs n m) : Fine 2 3000 (.list ((sgs hs n m).map Sg.d)) := by
  refine Fine.list (k := 1) (c := 200) (N := 10) (fun x hx => ?_) (by rw [List.length_map, sgs_len]; have := L.h4; have := L.n4; have := L.m2; omega) (by omega)
  obtain ⟨s, hs', rfl⟩ := List.mem_map.mp hx
  exact fine_sg L (sgs_mem.mp hs')
theorem ev_is_sign {hs : Hs} {n m : Nat} (L : LOk hs n m) {s : Sg} (h : sgOk hs n m s) : M_is_sign [lang hs n m, s.d] = some (.ok (.bool true)) := by
  have hm : hasO s.d (.list ((sgs hs n m).map Sg.d)) = some true := hasO_mem (k := 1) (c := 200) ((fine_sg L h).shaped (by omega)) ((fine_sgs L).shaped (by omega)) (fine_sg L h).lay (List.mem_map.mpr ⟨s, sgs_mem.mpr h, rfl⟩)
  have h1 := ev_signs_of L
  have h0 : (0 : Int) ≤ (s.k : Int) := by omega
  generalize (sgs hs n m).map Sg.d = G at hm h1
  unfold M_is_sign
  simp [runPure, runIo, runMk, b_is_sign, p_is_sign_1, p_is_sign_2, f_is_sign__is_whole, f_is_sign__signs_of, mv, setOs, lim, targets, flats, tup, startE, slot, flatP, O.flat, share, frz, endO, intsOf, boolsOf, setAll, P.still, callD, callI, e_ixt, e_ixl, e_isi_int_none, e_isi_int_bool, e_isi_int_int, e_isi_int_str, e_isi_int_list, e_isi_int_tuple, e_isi_int_dict, e_isi_bool_none, e_isi_bool_bool, e_isi_bool_int, e_isi_bool_str, e_isi_bool_list, e_isi_bool_tuple, e_isi_bool_dict, e_isi_str_none, e_isi_str_bool, e_isi_str_int, e_isi_str_str, e_isi_str_list, e_isi_str_tuple, e_isi_str_dict, e_isi_tuple_none, e_isi_tuple_bool, e_isi_tuple_int, e_isi_tuple_str, e_isi_tuple_list, e_isi_tuple_tuple, e_isi_tuple_dict, e_isi_list_none, e_isi_list_bool, e_isi_list_int, e_isi_list_str, e_isi_list_list, e_isi_list_tuple, e_isi_list_dict, e_isi_dict_none, e_isi_dict_bool, e_isi_dict_int, e_isi_dict_str, e_isi_dict_list, e_isi_dict_tuple, e_isi_dict_dict, e_isN_none, e_isN_bool, e_isN_int, e_isN_str, e_isN_list, e_isN_tuple, e_isN_dict, e_tr_none, e_tr_bool, e_tr_int, e_tr_tuple, e_tr_list, e_row_tuple, e_row_list, e_sl_tuple, e_sl_list, e_set_name, e_set_tup, e_eq_ss, e_ne_ss, e_eqa_none, e_eqb_none, e_nea_none, e_neb_none, e_eqa_bool, e_eqb_bool, e_nea_bool, e_neb_bool, e_eqa_int, e_eqb_int, e_nea_int, e_neb_int, e_eqa_list, e_eqb_list, e_nea_list, e_neb_list, e_eqa_tuple, e_eqb_tuple, e_nea_tuple, e_neb_tuple, e_eqa_dict, e_eqb_dict, e_nea_dict, e_neb_dict, e_lt, e_le, e_gt, e_ge, e_isin, e_notin, e_is, e_isnt, e_add_ii, e_add_ss, e_add_tt, e_add_ll, e_sub_ii, e_mul_ii, e_mul_ti, e_mul_li, e_fdiv_ii, e_mod_ii, e_pow_ii, e_len_t, e_len_l, e_int_i, e_int_b, e_max_ii, e_min_ii, e_max_l, e_min_l, e_max_t, e_min_t, e_sum_l, e_sum_t, e_all_l, e_any_l, e_tuple_l, e_tuple_t, e_list_l, e_list_t, e_repr_d, e_divmod_ii, e_sorted_l, e_aug_add, e_aug_sub, h1, hm, ev_is_whole_n, h0]
theorem stream_loop {hs : Hs} {n m : Nat} (L : LOk hs n m) (S : D) : ∀ (ss : List Sg) (k : Nat) (x2 x3 : Option O), (∀ s ∈ ss, sgOk hs n m s) →
    ∃ x2' x3', forL (bodyF (setT (.tup [2, 3])) (evalSs G_need_stream 0 p_need_stream_3)) (enumFrom k (ss.map Sg.d)) [some (.fz (lang hs n m)), some (.fz S), x2, x3] = some (.nx [some (.fz (lang hs n m)), some (.fz S), x2', x3'])
  | [], k, x2, x3, _ => ⟨x2, x3, rfl⟩
  | s :: ss, k, x2, x3, h => by
    obtain ⟨x2', x3', e⟩ := stream_loop L S ss (k + 1) (some (.fz (.int (k : Nat)))) (some (.fz s.d)) fun x hx => h x (List.mem_cons_of_mem _ hx)
    refine ⟨x2', x3', ?_⟩
    have := ev_is_sign L (h s List.mem_cons_self)
    rw [List.map_cons]
    unfold enumFrom forL
    have hb : bodyF (setT (.tup [2, 3])) (evalSs G_need_stream 0 p_need_stream_3) (.tuple [.int (k : Nat), s.d]) [some (.fz (lang hs n m)), some (.fz S), x2, x3] = some (.nx [some (.fz (lang hs n m)), some (.fz S), some (.fz (.int (k : Nat))), some (.fz s.d)]) := by
      simp [bodyF, p_need_stream_3, f_need_stream__need_language, f_need_stream__MOST_SIGNS, f_need_stream__is_sign, mv, setOs, lim, targets, flats, tup, startE, slot, flatP, O.flat, share, frz, endO, intsOf, boolsOf, setAll, P.still, callD, callI, e_ixt, e_ixl, e_isi_int_none, e_isi_int_bool, e_isi_int_int, e_isi_int_str, e_isi_int_list, e_isi_int_tuple, e_isi_int_dict, e_isi_bool_none, e_isi_bool_bool, e_isi_bool_int, e_isi_bool_str, e_isi_bool_list, e_isi_bool_tuple, e_isi_bool_dict, e_isi_str_none, e_isi_str_bool, e_isi_str_int, e_isi_str_str, e_isi_str_list, e_isi_str_tuple, e_isi_str_dict, e_isi_tuple_none, e_isi_tuple_bool, e_isi_tuple_int, e_isi_tuple_str, e_isi_tuple_list, e_isi_tuple_tuple, e_isi_tuple_dict, e_isi_list_none, e_isi_list_bool, e_isi_list_int, e_isi_list_str, e_isi_list_list, e_isi_list_tuple, e_isi_list_dict, e_isi_dict_none, e_isi_dict_bool, e_isi_dict_int, e_isi_dict_str, e_isi_dict_list, e_isi_dict_tuple, e_isi_dict_dict, e_isN_none, e_isN_bool, e_isN_int, e_isN_str, e_isN_list, e_isN_tuple, e_isN_dict, e_tr_none, e_tr_bool, e_tr_int, e_tr_tuple, e_tr_list, e_row_tuple, e_row_list, e_sl_tuple, e_sl_list, e_set_name, e_set_tup, e_eq_ss, e_ne_ss, e_eqa_none, e_eqb_none, e_nea_none, e_neb_none, e_eqa_bool, e_eqb_bool, e_nea_bool, e_neb_bool, e_eqa_int, e_eqb_int, e_nea_int, e_neb_int, e_eqa_list, e_eqb_list, e_nea_list, e_neb_list, e_eqa_tuple, e_eqb_tuple, e_nea_tuple, e_neb_tuple, e_eqa_dict, e_eqb_dict, e_nea_dict, e_neb_dict, e_lt, e_le, e_gt, e_ge, e_isin, e_notin, e_is, e_isnt, e_add_ii, e_add_ss, e_add_tt, e_add_ll, e_sub_ii, e_mul_ii, e_mul_ti, e_mul_li, e_fdiv_ii, e_mod_ii, e_pow_ii, e_len_t, e_len_l, e_int_i, e_int_b, e_max_ii, e_min_ii, e_max_l, e_min_l, e_max_t, e_min_t, e_sum_l, e_sum_t, e_all_l, e_any_l, e_tuple_l, e_tuple_t, e_list_l, e_list_t, e_repr_d, e_divmod_ii, e_sorted_l, e_aug_add, e_aug_sub, this]
    rw [hb]
    exact e
theorem ev_need_stream {hs : Hs} {n m : Nat} (L : LOk hs n m) {ss : List Sg} (h : ∀ s ∈ ss, sgOk hs n m s) (hl : ss.length ≤ 400) : M_need_stream [lang hs n m, .tuple (ss.map Sg.d)] = some (.ok .none) := by
  obtain ⟨x2, x3, e⟩ := stream_loop L (.tuple (ss.map Sg.d)) ss 0 none none h
  have h1 := ev_need_language L
  have hl' : ¬ ((400 : Int) < (ss.length : Int)) := by omega
  unfold M_need_stream
  simp [runPure, runIo, runMk, b_need_stream, p_need_stream_1, p_need_stream_2, p_need_stream_4, f_need_stream__need_language, f_need_stream__MOST_SIGNS, f_need_stream__is_sign, mv, setOs, lim, targets, flats, tup, startE, slot, flatP, O.flat, share, frz, endO, intsOf, boolsOf, setAll, P.still, callD, callI, e_ixt, e_ixl, e_isi_int_none, e_isi_int_bool, e_isi_int_int, e_isi_int_str, e_isi_int_list, e_isi_int_tuple, e_isi_int_dict, e_isi_bool_none, e_isi_bool_bool, e_isi_bool_int, e_isi_bool_str, e_isi_bool_list, e_isi_bool_tuple, e_isi_bool_dict, e_isi_str_none, e_isi_str_bool, e_isi_str_int, e_isi_str_str, e_isi_str_list, e_isi_str_tuple, e_isi_str_dict, e_isi_tuple_none, e_isi_tuple_bool, e_isi_tuple_int, e_isi_tuple_str, e_isi_tuple_list, e_isi_tuple_tuple, e_isi_tuple_dict, e_isi_list_none, e_isi_list_bool, e_isi_list_int, e_isi_list_str, e_isi_list_list, e_isi_list_tuple, e_isi_list_dict, e_isi_dict_none, e_isi_dict_bool, e_isi_dict_int, e_isi_dict_str, e_isi_dict_list, e_isi_dict_tuple, e_isi_dict_dict, e_isN_none, e_isN_bool, e_isN_int, e_isN_str, e_isN_list, e_isN_tuple, e_isN_dict, e_tr_none, e_tr_bool, e_tr_int, e_tr_tuple, e_tr_list, e_row_tuple, e_row_list, e_sl_tuple, e_sl_list, e_set_name, e_set_tup, e_eq_ss, e_ne_ss, e_eqa_none, e_eqb_none, e_nea_none, e_neb_none, e_eqa_bool, e_eqb_bool, e_nea_bool, e_neb_bool, e_eqa_int, e_eqb_int, e_nea_int, e_neb_int, e_eqa_list, e_eqb_list, e_nea_list, e_neb_list, e_eqa_tuple, e_eqb_tuple, e_nea_tuple, e_neb_tuple, e_eqa_dict, e_eqb_dict, e_nea_dict, e_neb_dict, e_lt, e_le, e_gt, e_ge, e_isin, e_notin, e_is, e_isnt, e_add_ii, e_add_ss, e_add_tt, e_add_ll, e_sub_ii, e_mul_ii, e_mul_ti, e_mul_li, e_fdiv_ii, e_mod_ii, e_pow_ii, e_len_t, e_len_l, e_int_i, e_int_b, e_max_ii, e_min_ii, e_max_l, e_min_l, e_max_t, e_min_t, e_sum_l, e_sum_t, e_all_l, e_any_l, e_tuple_l, e_tuple_t, e_list_l, e_list_t, e_repr_d, e_divmod_ii, e_sorted_l, e_aug_add, e_aug_sub, h1, e, hl', targets]
end NW
end
section
set_option Elab.async false
set_option linter.all false
set_option maxRecDepth 100000
set_option maxHeartbeats 2000000
namespace NW
open PySem L2
/-! the reader -/
abbrev Plc := Option Nat × List Int
def gD (m : Nat × List Int) : D := .tuple [.int (m.1 : Nat), tup m.2]
def ogD : Option (Nat × List Int) → D
  | none => .none
  | some m => gD m
def stD (p : Plc) (on : List Int) : D := .tuple [hD p.1, tup p.2, tup on]
def vlOk (n : Nat) (xs : List Int) : Prop := ∀ x ∈ xs, 0 ≤ x ∧ x < (n : Int)
def plOk (hs : Hs) (n : Nat) (p : Plc) : Prop := match p.1 with
  | none => p.2 = []
  | some k => k < hs.length ∧ p.2.length < (rw' hs k).2 ∧ vlOk n p.2
def msOk (hs : Hs) (n : Nat) (m : Nat × List Int) : Prop := m.1 < hs.length ∧ m.2.length = (rw' hs m.1).2 ∧ vlOk n m.2
def onOk (n : Nat) (on : List Int) : Prop := on.Pairwise (· < ·) ∧ vlOk n on
/-- behind a sign -/
def tk (hs : Hs) (p : Plc) : Sg → Plc × Option (Nat × List Int)
  | .moment _ => (p, none)
  | .head k => if (rw' hs k).2 = 0 then ((none, []), some (k, [])) else ((some k, []), none)
  | .value v => match p.1 with
    | none => ((none, []), none)
    | some h => if p.2.length + 1 < (rw' hs h).2 then ((some h, p.2 ++ [(v : Int)]), none) else ((some h, []), some (h, p.2 ++ [(v : Int)]))
def wo (v : Int) (on : List Int) : List Int := on.filter fun x => !decide (x = v)
noncomputable def nb (hs : Hs) (on : List Int) : Option (Nat × List Int) → List Int
  | none => on
  | some m => match (rw' hs m.1).1 with
    | .quiet => []
    | .on => ssetI (on ++ [m.2.headD 0])
    | .off => wo (m.2.headD 0) on
    | .other => on
noncomputable def rd (hs : Hs) : Plc → List Int → List Sg → (Plc × List Int) × List (Nat × List Int)
  | p, on, [] => ((p, on), [])
  | p, on, s :: ss => ((rd hs (tk hs p s).1 (nb hs on (tk hs p s).2) ss).1, (tk hs p s).2.toList ++ (rd hs (tk hs p s).1 (nb hs on (tk hs p s).2) ss).2)
theorem tk_ok {hs : Hs} {n m : Nat} (L : LOk hs n m) {p : Plc} (hp : plOk hs n p) {s : Sg} (h : sgOk hs n m s) : plOk hs n (tk hs p s).1 ∧ ∀ x, (tk hs p s).2 = some x → msOk hs n x := by
  cases s with
  | moment k => exact ⟨hp, fun x e => by simp [tk] at e⟩
  | head k =>
    simp only [sgOk] at h
    rw [show tk hs p (.head k) = (if (rw' hs k).2 = 0 then ((none, []), some (k, [])) else ((some k, []), none)) from rfl]
    by_cases h0 : (rw' hs k).2 = 0
    · rw [if_pos h0]
      refine ⟨rfl, fun x e => ?_⟩
      simp only [Option.some.injEq] at e
      subst e
      exact ⟨h, by simp [h0], fun x hx => nomatch hx⟩
    · rw [if_neg h0]
      exact ⟨⟨h, by simp; omega, fun x hx => nomatch hx⟩, fun x e => by simp at e⟩
  | value v =>
    simp only [sgOk] at h
    obtain ⟨o, got⟩ := p
    cases o with
    | none => exact ⟨rfl, fun x e => by simp [tk] at e⟩
    | some k =>
      obtain ⟨h1, h2, h3⟩ := hp
      have hv : vlOk n (got ++ [(v : Int)]) := fun x hx => by
        rcases List.mem_append.mp hx with hx | hx
        · exact h3 x hx
        · rw [List.mem_singleton] at hx; subst hx; omega
      simp only at h2
      unfold tk
      simp only
      by_cases h4 : got.length + 1 < (rw' hs k).2
      · rw [if_pos h4]
        exact ⟨⟨h1, by simp; omega, hv⟩, fun x e => by simp at e⟩
      · rw [if_neg h4]
        refine ⟨⟨h1, by simp; omega, fun x hx => nomatch hx⟩, fun x e => ?_⟩
        simp only [Option.some.injEq] at e
        subst e
        exact ⟨h1, by simp; omega, hv⟩
theorem asc_len : ∀ {xs : List Int} {lo hi : Int}, xs.Pairwise (· < ·) → (∀ x ∈ xs, lo ≤ x ∧ x < hi) → (xs.length : Int) ≤ hi - lo ∨ xs = []
  | [], _, _, _, _ => .inr rfl
  | x :: xs, lo, hi, h, hx => by
    obtain ⟨h1, h2⟩ := List.pairwise_cons.mp h
    have := hx x List.mem_cons_self
    rcases asc_len (lo := x + 1) (hi := hi) h2 (fun y hy => by have := h1 y hy; have := hx y (List.mem_cons_of_mem _ hy); omega) with z | rfl
    · left; rw [List.length_cons]; omega
    · left; simp; omega
theorem on_len {n : Nat} {on : List Int} (h : onOk n on) : on.length ≤ n := by
  rcases asc_len (lo := 0) (hi := n) h.1 h.2 with z | rfl
  · omega
  · simp
theorem nb_ok {hs : Hs} {n m : Nat} (L : LOk hs n m) {on : List Int} (ho : onOk n on) {o : Option (Nat × List Int)} (hm : ∀ x, o = some x → msOk hs n x) : onOk n (nb hs on o) := by
  cases o with
  | none => exact ho
  | some x =>
    obtain ⟨h1, h2, h3⟩ := hm x rfl
    unfold nb
    simp only
    have hr := rw_ok L x.1
    cases e : (rw' hs x.1).1 with
    | quiet => exact ⟨.nil, fun x hx => nomatch hx⟩
    | other => exact ho
    | off =>
      refine ⟨ho.1.filter _, fun y hy => ho.2 y ((List.mem_filter.mp hy).1)⟩
    | on =>
      have hl : 1 ≤ x.2.length := by have := hr.2 (.inl e); omega
      obtain ⟨k, vs⟩ := x
      cases vs with
      | nil => simp at hl
      | cons v vs =>
        simp only [List.headD_cons]
        rw [ssetI_def]
        refine ⟨setI_asc, fun y hy => ?_⟩
        have := setI_mem.mp hy
        rcases List.mem_append.mp this with z | z
        · exact ho.2 y z
        · rw [List.mem_singleton] at z; subst z; exact h3 _ List.mem_cons_self
theorem rd_ok {hs : Hs} {n m : Nat} (L : LOk hs n m) : ∀ (ss : List Sg) {p : Plc} {on : List Int}, plOk hs n p → onOk n on → (∀ s ∈ ss, sgOk hs n m s) →
    plOk hs n (rd hs p on ss).1.1 ∧ onOk n (rd hs p on ss).1.2 ∧ (∀ x ∈ (rd hs p on ss).2, msOk hs n x) ∧ (rd hs p on ss).2.length ≤ ss.length
  | [], p, on, hp, ho, _ => ⟨hp, ho, fun x hx => (by simp [rd] at hx), by simp [rd]⟩
  | s :: ss, p, on, hp, ho, h => by
    obtain ⟨h1, h2⟩ := tk_ok L hp (h s List.mem_cons_self)
    have h3 := nb_ok L ho h2
    obtain ⟨a, b, c, d⟩ := rd_ok L ss h1 h3 fun x hx => h x (List.mem_cons_of_mem _ hx)
    unfold rd
    refine ⟨a, b, fun x hx => ?_, ?_⟩
    · rcases List.mem_append.mp hx with z | z
      · exact h2 x (by simpa using z)
      · exact c x z
    · rw [List.length_append, List.length_cons]
      have : (tk hs p s).2.toList.length ≤ 1 := by cases (tk hs p s).2 <;> simp
      omega
def notI (v : Int) : D → Bool
  | .int x => !decide (x = v)
  | _ => false
/-! the program's reader -/
theorem ev_taken {hs : Hs} {n m : Nat} (L : LOk hs n m) {p : Plc} (hp : plOk hs n p) {s : Sg} (h : sgOk hs n m s) :
    M_taken [lang hs n m, hD p.1, tup p.2, s.d] = some (.ok (.tuple [hD (tk hs p s).1.1, tup (tk hs p s).1.2, ogD (tk hs p s).2])) := by
  unfold M_taken
  cases s with
  | moment k => simp [runPure, runIo, runMk, b_taken, p_taken_1, p_taken_2, p_taken_3, p_taken_4, p_taken_5, p_taken_6, p_taken_7, f_taken__MOMENT, f_taken__HEAD, f_taken__long_of, mv, setOs, lim, targets, flats, tup, startE, slot, flatP, O.flat, share, frz, endO, intsOf, boolsOf, setAll, P.still, callD, callI, e_ixt, e_ixl, e_isi_int_none, e_isi_int_bool, e_isi_int_int, e_isi_int_str, e_isi_int_list, e_isi_int_tuple, e_isi_int_dict, e_isi_bool_none, e_isi_bool_bool, e_isi_bool_int, e_isi_bool_str, e_isi_bool_list, e_isi_bool_tuple, e_isi_bool_dict, e_isi_str_none, e_isi_str_bool, e_isi_str_int, e_isi_str_str, e_isi_str_list, e_isi_str_tuple, e_isi_str_dict, e_isi_tuple_none, e_isi_tuple_bool, e_isi_tuple_int, e_isi_tuple_str, e_isi_tuple_list, e_isi_tuple_tuple, e_isi_tuple_dict, e_isi_list_none, e_isi_list_bool, e_isi_list_int, e_isi_list_str, e_isi_list_list, e_isi_list_tuple, e_isi_list_dict, e_isi_dict_none, e_isi_dict_bool, e_isi_dict_int, e_isi_dict_str, e_isi_dict_list, e_isi_dict_tuple, e_isi_dict_dict, e_isN_none, e_isN_bool, e_isN_int, e_isN_str, e_isN_list, e_isN_tuple, e_isN_dict, e_tr_none, e_tr_bool, e_tr_int, e_tr_tuple, e_tr_list, e_row_tuple, e_row_list, e_sl_tuple, e_sl_list, e_set_name, e_set_tup, e_eq_ss, e_ne_ss, e_eqa_none, e_eqb_none, e_nea_none, e_neb_none, e_eqa_bool, e_eqb_bool, e_nea_bool, e_neb_bool, e_eqa_int, e_eqb_int, e_nea_int, e_neb_int, e_eqa_list, e_eqb_list, e_nea_list, e_neb_list, e_eqa_tuple, e_eqb_tuple, e_nea_tuple, e_neb_tuple, e_eqa_dict, e_eqb_dict, e_nea_dict, e_neb_dict, e_lt, e_le, e_gt, e_ge, e_isin, e_notin, e_is, e_isnt, e_add_ii, e_add_ss, e_add_tt, e_add_ll, e_sub_ii, e_mul_ii, e_mul_ti, e_mul_li, e_fdiv_ii, e_mod_ii, e_pow_ii, e_len_t, e_len_l, e_int_i, e_int_b, e_max_ii, e_min_ii, e_max_l, e_min_l, e_max_t, e_min_t, e_sum_l, e_sum_t, e_all_l, e_any_l, e_tuple_l, e_tuple_t, e_list_l, e_list_t, e_repr_d, e_divmod_ii, e_sorted_l, e_aug_add, e_aug_sub, tk, ogD]
  | head k =>
    simp only [sgOk] at h
    by_cases h0 : (rw' hs k).2 = 0
    · simp [runPure, runIo, runMk, b_taken, p_taken_1, p_taken_2, p_taken_3, p_taken_4, p_taken_5, p_taken_6, p_taken_7, f_taken__MOMENT, f_taken__HEAD, f_taken__long_of, mv, setOs, lim, targets, flats, tup, startE, slot, flatP, O.flat, share, frz, endO, intsOf, boolsOf, setAll, P.still, callD, callI, e_ixt, e_ixl, e_isi_int_none, e_isi_int_bool, e_isi_int_int, e_isi_int_str, e_isi_int_list, e_isi_int_tuple, e_isi_int_dict, e_isi_bool_none, e_isi_bool_bool, e_isi_bool_int, e_isi_bool_str, e_isi_bool_list, e_isi_bool_tuple, e_isi_bool_dict, e_isi_str_none, e_isi_str_bool, e_isi_str_int, e_isi_str_str, e_isi_str_list, e_isi_str_tuple, e_isi_str_dict, e_isi_tuple_none, e_isi_tuple_bool, e_isi_tuple_int, e_isi_tuple_str, e_isi_tuple_list, e_isi_tuple_tuple, e_isi_tuple_dict, e_isi_list_none, e_isi_list_bool, e_isi_list_int, e_isi_list_str, e_isi_list_list, e_isi_list_tuple, e_isi_list_dict, e_isi_dict_none, e_isi_dict_bool, e_isi_dict_int, e_isi_dict_str, e_isi_dict_list, e_isi_dict_tuple, e_isi_dict_dict, e_isN_none, e_isN_bool, e_isN_int, e_isN_str, e_isN_list, e_isN_tuple, e_isN_dict, e_tr_none, e_tr_bool, e_tr_int, e_tr_tuple, e_tr_list, e_row_tuple, e_row_list, e_sl_tuple, e_sl_list, e_set_name, e_set_tup, e_eq_ss, e_ne_ss, e_eqa_none, e_eqb_none, e_nea_none, e_neb_none, e_eqa_bool, e_eqb_bool, e_nea_bool, e_neb_bool, e_eqa_int, e_eqb_int, e_nea_int, e_neb_int, e_eqa_list, e_eqb_list, e_nea_list, e_neb_list, e_eqa_tuple, e_eqb_tuple, e_nea_tuple, e_neb_tuple, e_eqa_dict, e_eqb_dict, e_nea_dict, e_neb_dict, e_lt, e_le, e_gt, e_ge, e_isin, e_notin, e_is, e_isnt, e_add_ii, e_add_ss, e_add_tt, e_add_ll, e_sub_ii, e_mul_ii, e_mul_ti, e_mul_li, e_fdiv_ii, e_mod_ii, e_pow_ii, e_len_t, e_len_l, e_int_i, e_int_b, e_max_ii, e_min_ii, e_max_l, e_min_l, e_max_t, e_min_t, e_sum_l, e_sum_t, e_all_l, e_any_l, e_tuple_l, e_tuple_t, e_list_l, e_list_t, e_repr_d, e_divmod_ii, e_sorted_l, e_aug_add, e_aug_sub, tk, ogD, gD, hD, at_hd h, h0]
    · simp [runPure, runIo, runMk, b_taken, p_taken_1, p_taken_2, p_taken_3, p_taken_4, p_taken_5, p_taken_6, p_taken_7, f_taken__MOMENT, f_taken__HEAD, f_taken__long_of, mv, setOs, lim, targets, flats, tup, startE, slot, flatP, O.flat, share, frz, endO, intsOf, boolsOf, setAll, P.still, callD, callI, e_ixt, e_ixl, e_isi_int_none, e_isi_int_bool, e_isi_int_int, e_isi_int_str, e_isi_int_list, e_isi_int_tuple, e_isi_int_dict, e_isi_bool_none, e_isi_bool_bool, e_isi_bool_int, e_isi_bool_str, e_isi_bool_list, e_isi_bool_tuple, e_isi_bool_dict, e_isi_str_none, e_isi_str_bool, e_isi_str_int, e_isi_str_str, e_isi_str_list, e_isi_str_tuple, e_isi_str_dict, e_isi_tuple_none, e_isi_tuple_bool, e_isi_tuple_int, e_isi_tuple_str, e_isi_tuple_list, e_isi_tuple_tuple, e_isi_tuple_dict, e_isi_list_none, e_isi_list_bool, e_isi_list_int, e_isi_list_str, e_isi_list_list, e_isi_list_tuple, e_isi_list_dict, e_isi_dict_none, e_isi_dict_bool, e_isi_dict_int, e_isi_dict_str, e_isi_dict_list, e_isi_dict_tuple, e_isi_dict_dict, e_isN_none, e_isN_bool, e_isN_int, e_isN_str, e_isN_list, e_isN_tuple, e_isN_dict, e_tr_none, e_tr_bool, e_tr_int, e_tr_tuple, e_tr_list, e_row_tuple, e_row_list, e_sl_tuple, e_sl_list, e_set_name, e_set_tup, e_eq_ss, e_ne_ss, e_eqa_none, e_eqb_none, e_nea_none, e_neb_none, e_eqa_bool, e_eqb_bool, e_nea_bool, e_neb_bool, e_eqa_int, e_eqb_int, e_nea_int, e_neb_int, e_eqa_list, e_eqb_list, e_nea_list, e_neb_list, e_eqa_tuple, e_eqb_tuple, e_nea_tuple, e_neb_tuple, e_eqa_dict, e_eqb_dict, e_nea_dict, e_neb_dict, e_lt, e_le, e_gt, e_ge, e_isin, e_notin, e_is, e_isnt, e_add_ii, e_add_ss, e_add_tt, e_add_ll, e_sub_ii, e_mul_ii, e_mul_ti, e_mul_li, e_fdiv_ii, e_mod_ii, e_pow_ii, e_len_t, e_len_l, e_int_i, e_int_b, e_max_ii, e_min_ii, e_max_l, e_min_l, e_max_t, e_min_t, e_sum_l, e_sum_t, e_all_l, e_any_l, e_tuple_l, e_tuple_t, e_list_l, e_list_t, e_repr_d, e_divmod_ii, e_sorted_l, e_aug_add, e_aug_sub, tk, ogD, gD, hD, at_hd h, h0]
  | value v =>
    obtain ⟨o, got⟩ := p
    cases o with
    | none => simp [runPure, runIo, runMk, b_taken, p_taken_1, p_taken_2, p_taken_3, p_taken_4, p_taken_5, p_taken_6, p_taken_7, f_taken__MOMENT, f_taken__HEAD, f_taken__long_of, mv, setOs, lim, targets, flats, tup, startE, slot, flatP, O.flat, share, frz, endO, intsOf, boolsOf, setAll, P.still, callD, callI, e_ixt, e_ixl, e_isi_int_none, e_isi_int_bool, e_isi_int_int, e_isi_int_str, e_isi_int_list, e_isi_int_tuple, e_isi_int_dict, e_isi_bool_none, e_isi_bool_bool, e_isi_bool_int, e_isi_bool_str, e_isi_bool_list, e_isi_bool_tuple, e_isi_bool_dict, e_isi_str_none, e_isi_str_bool, e_isi_str_int, e_isi_str_str, e_isi_str_list, e_isi_str_tuple, e_isi_str_dict, e_isi_tuple_none, e_isi_tuple_bool, e_isi_tuple_int, e_isi_tuple_str, e_isi_tuple_list, e_isi_tuple_tuple, e_isi_tuple_dict, e_isi_list_none, e_isi_list_bool, e_isi_list_int, e_isi_list_str, e_isi_list_list, e_isi_list_tuple, e_isi_list_dict, e_isi_dict_none, e_isi_dict_bool, e_isi_dict_int, e_isi_dict_str, e_isi_dict_list, e_isi_dict_tuple, e_isi_dict_dict, e_isN_none, e_isN_bool, e_isN_int, e_isN_str, e_isN_list, e_isN_tuple, e_isN_dict, e_tr_none, e_tr_bool, e_tr_int, e_tr_tuple, e_tr_list, e_row_tuple, e_row_list, e_sl_tuple, e_sl_list, e_set_name, e_set_tup, e_eq_ss, e_ne_ss, e_eqa_none, e_eqb_none, e_nea_none, e_neb_none, e_eqa_bool, e_eqb_bool, e_nea_bool, e_neb_bool, e_eqa_int, e_eqb_int, e_nea_int, e_neb_int, e_eqa_list, e_eqb_list, e_nea_list, e_neb_list, e_eqa_tuple, e_eqb_tuple, e_nea_tuple, e_neb_tuple, e_eqa_dict, e_eqb_dict, e_nea_dict, e_neb_dict, e_lt, e_le, e_gt, e_ge, e_isin, e_notin, e_is, e_isnt, e_add_ii, e_add_ss, e_add_tt, e_add_ll, e_sub_ii, e_mul_ii, e_mul_ti, e_mul_li, e_fdiv_ii, e_mod_ii, e_pow_ii, e_len_t, e_len_l, e_int_i, e_int_b, e_max_ii, e_min_ii, e_max_l, e_min_l, e_max_t, e_min_t, e_sum_l, e_sum_t, e_all_l, e_any_l, e_tuple_l, e_tuple_t, e_list_l, e_list_t, e_repr_d, e_divmod_ii, e_sorted_l, e_aug_add, e_aug_sub, tk, ogD, gD, hD]
    | some k =>
      obtain ⟨h1, h2, h3⟩ := hp
      have hl := ev_long_of n m h1
      have hg : got.length + 1 ≤ 16777216 := by have := (rw_ok L k).1; simp only at h2; omega
      have hk : ¬ ((k : Int) = -1) := by omega
      by_cases h4 : got.length + 1 < (rw' hs k).2
      · have h4' : (got.length : Int) + 1 < ((rw' hs k).2 : Int) := by omega
        simp [runPure, runIo, runMk, b_taken, p_taken_1, p_taken_2, p_taken_3, p_taken_4, p_taken_5, p_taken_6, p_taken_7, f_taken__MOMENT, f_taken__HEAD, f_taken__long_of, mv, setOs, lim, targets, flats, tup, startE, slot, flatP, O.flat, share, frz, endO, intsOf, boolsOf, setAll, P.still, callD, callI, e_ixt, e_ixl, e_isi_int_none, e_isi_int_bool, e_isi_int_int, e_isi_int_str, e_isi_int_list, e_isi_int_tuple, e_isi_int_dict, e_isi_bool_none, e_isi_bool_bool, e_isi_bool_int, e_isi_bool_str, e_isi_bool_list, e_isi_bool_tuple, e_isi_bool_dict, e_isi_str_none, e_isi_str_bool, e_isi_str_int, e_isi_str_str, e_isi_str_list, e_isi_str_tuple, e_isi_str_dict, e_isi_tuple_none, e_isi_tuple_bool, e_isi_tuple_int, e_isi_tuple_str, e_isi_tuple_list, e_isi_tuple_tuple, e_isi_tuple_dict, e_isi_list_none, e_isi_list_bool, e_isi_list_int, e_isi_list_str, e_isi_list_list, e_isi_list_tuple, e_isi_list_dict, e_isi_dict_none, e_isi_dict_bool, e_isi_dict_int, e_isi_dict_str, e_isi_dict_list, e_isi_dict_tuple, e_isi_dict_dict, e_isN_none, e_isN_bool, e_isN_int, e_isN_str, e_isN_list, e_isN_tuple, e_isN_dict, e_tr_none, e_tr_bool, e_tr_int, e_tr_tuple, e_tr_list, e_row_tuple, e_row_list, e_sl_tuple, e_sl_list, e_set_name, e_set_tup, e_eq_ss, e_ne_ss, e_eqa_none, e_eqb_none, e_nea_none, e_neb_none, e_eqa_bool, e_eqb_bool, e_nea_bool, e_neb_bool, e_eqa_int, e_eqb_int, e_nea_int, e_neb_int, e_eqa_list, e_eqb_list, e_nea_list, e_neb_list, e_eqa_tuple, e_eqb_tuple, e_nea_tuple, e_neb_tuple, e_eqa_dict, e_eqb_dict, e_nea_dict, e_neb_dict, e_lt, e_le, e_gt, e_ge, e_isin, e_notin, e_is, e_isnt, e_add_ii, e_add_ss, e_add_tt, e_add_ll, e_sub_ii, e_mul_ii, e_mul_ti, e_mul_li, e_fdiv_ii, e_mod_ii, e_pow_ii, e_len_t, e_len_l, e_int_i, e_int_b, e_max_ii, e_min_ii, e_max_l, e_min_l, e_max_t, e_min_t, e_sum_l, e_sum_t, e_all_l, e_any_l, e_tuple_l, e_tuple_t, e_list_l, e_list_t, e_repr_d, e_divmod_ii, e_sorted_l, e_aug_add, e_aug_sub, tk, ogD, gD, hD, hl, h4, h4', hg, hk]
      · have h4' : ¬ (got.length : Int) + 1 < ((rw' hs k).2 : Int) := by omega
        simp [runPure, runIo, runMk, b_taken, p_taken_1, p_taken_2, p_taken_3, p_taken_4, p_taken_5, p_taken_6, p_taken_7, f_taken__MOMENT, f_taken__HEAD, f_taken__long_of, mv, setOs, lim, targets, flats, tup, startE, slot, flatP, O.flat, share, frz, endO, intsOf, boolsOf, setAll, P.still, callD, callI, e_ixt, e_ixl, e_isi_int_none, e_isi_int_bool, e_isi_int_int, e_isi_int_str, e_isi_int_list, e_isi_int_tuple, e_isi_int_dict, e_isi_bool_none, e_isi_bool_bool, e_isi_bool_int, e_isi_bool_str, e_isi_bool_list, e_isi_bool_tuple, e_isi_bool_dict, e_isi_str_none, e_isi_str_bool, e_isi_str_int, e_isi_str_str, e_isi_str_list, e_isi_str_tuple, e_isi_str_dict, e_isi_tuple_none, e_isi_tuple_bool, e_isi_tuple_int, e_isi_tuple_str, e_isi_tuple_list, e_isi_tuple_tuple, e_isi_tuple_dict, e_isi_list_none, e_isi_list_bool, e_isi_list_int, e_isi_list_str, e_isi_list_list, e_isi_list_tuple, e_isi_list_dict, e_isi_dict_none, e_isi_dict_bool, e_isi_dict_int, e_isi_dict_str, e_isi_dict_list, e_isi_dict_tuple, e_isi_dict_dict, e_isN_none, e_isN_bool, e_isN_int, e_isN_str, e_isN_list, e_isN_tuple, e_isN_dict, e_tr_none, e_tr_bool, e_tr_int, e_tr_tuple, e_tr_list, e_row_tuple, e_row_list, e_sl_tuple, e_sl_list, e_set_name, e_set_tup, e_eq_ss, e_ne_ss, e_eqa_none, e_eqb_none, e_nea_none, e_neb_none, e_eqa_bool, e_eqb_bool, e_nea_bool, e_neb_bool, e_eqa_int, e_eqb_int, e_nea_int, e_neb_int, e_eqa_list, e_eqb_list, e_nea_list, e_neb_list, e_eqa_tuple, e_eqb_tuple, e_nea_tuple, e_neb_tuple, e_eqa_dict, e_eqb_dict, e_nea_dict, e_neb_dict, e_lt, e_le, e_gt, e_ge, e_isin, e_notin, e_is, e_isnt, e_add_ii, e_add_ss, e_add_tt, e_add_ll, e_sub_ii, e_mul_ii, e_mul_ti, e_mul_li, e_fdiv_ii, e_mod_ii, e_pow_ii, e_len_t, e_len_l, e_int_i, e_int_b, e_max_ii, e_min_ii, e_max_l, e_min_l, e_max_t, e_min_t, e_sum_l, e_sum_t, e_all_l, e_any_l, e_tuple_l, e_tuple_t, e_list_l, e_list_t, e_repr_d, e_divmod_ii, e_sorted_l, e_aug_add, e_aug_sub, tk, ogD, gD, hD, hl, h4, h4', hg, hk]
theorem ev_notes_behind {hs : Hs} {n m : Nat} (L : LOk hs n m) {on : List Int} (ho : onOk n on) {o : Option (Nat × List Int)} (hm : ∀ x, o = some x → msOk hs n x) :
    M_notes_behind [lang hs n m, tup on, ogD o] = some (.ok (tup (nb hs on o))) := by
  unfold M_notes_behind
  cases o with
  | none => simp [runPure, runIo, runMk, b_notes_behind, p_notes_behind_1, p_notes_behind_2, p_notes_behind_3, p_notes_behind_4, p_notes_behind_7, f_notes_behind__QUIET, f_notes_behind__ON, f_notes_behind__OFF, mv, setOs, lim, targets, flats, tup, startE, slot, flatP, O.flat, share, frz, endO, intsOf, boolsOf, setAll, P.still, callD, callI, e_ixt, e_ixl, e_isi_int_none, e_isi_int_bool, e_isi_int_int, e_isi_int_str, e_isi_int_list, e_isi_int_tuple, e_isi_int_dict, e_isi_bool_none, e_isi_bool_bool, e_isi_bool_int, e_isi_bool_str, e_isi_bool_list, e_isi_bool_tuple, e_isi_bool_dict, e_isi_str_none, e_isi_str_bool, e_isi_str_int, e_isi_str_str, e_isi_str_list, e_isi_str_tuple, e_isi_str_dict, e_isi_tuple_none, e_isi_tuple_bool, e_isi_tuple_int, e_isi_tuple_str, e_isi_tuple_list, e_isi_tuple_tuple, e_isi_tuple_dict, e_isi_list_none, e_isi_list_bool, e_isi_list_int, e_isi_list_str, e_isi_list_list, e_isi_list_tuple, e_isi_list_dict, e_isi_dict_none, e_isi_dict_bool, e_isi_dict_int, e_isi_dict_str, e_isi_dict_list, e_isi_dict_tuple, e_isi_dict_dict, e_isN_none, e_isN_bool, e_isN_int, e_isN_str, e_isN_list, e_isN_tuple, e_isN_dict, e_tr_none, e_tr_bool, e_tr_int, e_tr_tuple, e_tr_list, e_row_tuple, e_row_list, e_sl_tuple, e_sl_list, e_set_name, e_set_tup, e_eq_ss, e_ne_ss, e_eqa_none, e_eqb_none, e_nea_none, e_neb_none, e_eqa_bool, e_eqb_bool, e_nea_bool, e_neb_bool, e_eqa_int, e_eqb_int, e_nea_int, e_neb_int, e_eqa_list, e_eqb_list, e_nea_list, e_neb_list, e_eqa_tuple, e_eqb_tuple, e_nea_tuple, e_neb_tuple, e_eqa_dict, e_eqb_dict, e_nea_dict, e_neb_dict, e_lt, e_le, e_gt, e_ge, e_isin, e_notin, e_is, e_isnt, e_add_ii, e_add_ss, e_add_tt, e_add_ll, e_sub_ii, e_mul_ii, e_mul_ti, e_mul_li, e_fdiv_ii, e_mod_ii, e_pow_ii, e_len_t, e_len_l, e_int_i, e_int_b, e_max_ii, e_min_ii, e_max_l, e_min_l, e_max_t, e_min_t, e_sum_l, e_sum_t, e_all_l, e_any_l, e_tuple_l, e_tuple_t, e_list_l, e_list_t, e_repr_d, e_divmod_ii, e_sorted_l, e_aug_add, e_aug_sub, nb, ogD]
  | some x =>
    obtain ⟨h1, h2, h3⟩ := hm x rfl
    obtain ⟨k, vs⟩ := x
    simp only at h1 h2 h3
    have hr := rw_ok L k
    have hol := on_len ho
    have hn := L.n4
    have l1 : on.length + 1 ≤ 16777216 := by omega
    have l2 : on.length + 1 ≤ 60 := by omega
    have l3 : on.length ≤ 16777216 := by omega
    cases e : (rw' hs k).1 with
    | quiet => simp [runPure, runIo, runMk, b_notes_behind, p_notes_behind_1, p_notes_behind_2, p_notes_behind_3, p_notes_behind_4, p_notes_behind_7, f_notes_behind__QUIET, f_notes_behind__ON, f_notes_behind__OFF, mv, setOs, lim, targets, flats, tup, startE, slot, flatP, O.flat, share, frz, endO, intsOf, boolsOf, setAll, P.still, callD, callI, e_ixt, e_ixl, e_isi_int_none, e_isi_int_bool, e_isi_int_int, e_isi_int_str, e_isi_int_list, e_isi_int_tuple, e_isi_int_dict, e_isi_bool_none, e_isi_bool_bool, e_isi_bool_int, e_isi_bool_str, e_isi_bool_list, e_isi_bool_tuple, e_isi_bool_dict, e_isi_str_none, e_isi_str_bool, e_isi_str_int, e_isi_str_str, e_isi_str_list, e_isi_str_tuple, e_isi_str_dict, e_isi_tuple_none, e_isi_tuple_bool, e_isi_tuple_int, e_isi_tuple_str, e_isi_tuple_list, e_isi_tuple_tuple, e_isi_tuple_dict, e_isi_list_none, e_isi_list_bool, e_isi_list_int, e_isi_list_str, e_isi_list_list, e_isi_list_tuple, e_isi_list_dict, e_isi_dict_none, e_isi_dict_bool, e_isi_dict_int, e_isi_dict_str, e_isi_dict_list, e_isi_dict_tuple, e_isi_dict_dict, e_isN_none, e_isN_bool, e_isN_int, e_isN_str, e_isN_list, e_isN_tuple, e_isN_dict, e_tr_none, e_tr_bool, e_tr_int, e_tr_tuple, e_tr_list, e_row_tuple, e_row_list, e_sl_tuple, e_sl_list, e_set_name, e_set_tup, e_eq_ss, e_ne_ss, e_eqa_none, e_eqb_none, e_nea_none, e_neb_none, e_eqa_bool, e_eqb_bool, e_nea_bool, e_neb_bool, e_eqa_int, e_eqb_int, e_nea_int, e_neb_int, e_eqa_list, e_eqb_list, e_nea_list, e_neb_list, e_eqa_tuple, e_eqb_tuple, e_nea_tuple, e_neb_tuple, e_eqa_dict, e_eqb_dict, e_nea_dict, e_neb_dict, e_lt, e_le, e_gt, e_ge, e_isin, e_notin, e_is, e_isnt, e_add_ii, e_add_ss, e_add_tt, e_add_ll, e_sub_ii, e_mul_ii, e_mul_ti, e_mul_li, e_fdiv_ii, e_mod_ii, e_pow_ii, e_len_t, e_len_l, e_int_i, e_int_b, e_max_ii, e_min_ii, e_max_l, e_min_l, e_max_t, e_min_t, e_sum_l, e_sum_t, e_all_l, e_any_l, e_tuple_l, e_tuple_t, e_list_l, e_list_t, e_repr_d, e_divmod_ii, e_sorted_l, e_aug_add, e_aug_sub, nb, ogD, gD, at_hd h1, e, Rl.s]
    | other => simp [runPure, runIo, runMk, b_notes_behind, p_notes_behind_1, p_notes_behind_2, p_notes_behind_3, p_notes_behind_4, p_notes_behind_7, f_notes_behind__QUIET, f_notes_behind__ON, f_notes_behind__OFF, mv, setOs, lim, targets, flats, tup, startE, slot, flatP, O.flat, share, frz, endO, intsOf, boolsOf, setAll, P.still, callD, callI, e_ixt, e_ixl, e_isi_int_none, e_isi_int_bool, e_isi_int_int, e_isi_int_str, e_isi_int_list, e_isi_int_tuple, e_isi_int_dict, e_isi_bool_none, e_isi_bool_bool, e_isi_bool_int, e_isi_bool_str, e_isi_bool_list, e_isi_bool_tuple, e_isi_bool_dict, e_isi_str_none, e_isi_str_bool, e_isi_str_int, e_isi_str_str, e_isi_str_list, e_isi_str_tuple, e_isi_str_dict, e_isi_tuple_none, e_isi_tuple_bool, e_isi_tuple_int, e_isi_tuple_str, e_isi_tuple_list, e_isi_tuple_tuple, e_isi_tuple_dict, e_isi_list_none, e_isi_list_bool, e_isi_list_int, e_isi_list_str, e_isi_list_list, e_isi_list_tuple, e_isi_list_dict, e_isi_dict_none, e_isi_dict_bool, e_isi_dict_int, e_isi_dict_str, e_isi_dict_list, e_isi_dict_tuple, e_isi_dict_dict, e_isN_none, e_isN_bool, e_isN_int, e_isN_str, e_isN_list, e_isN_tuple, e_isN_dict, e_tr_none, e_tr_bool, e_tr_int, e_tr_tuple, e_tr_list, e_row_tuple, e_row_list, e_sl_tuple, e_sl_list, e_set_name, e_set_tup, e_eq_ss, e_ne_ss, e_eqa_none, e_eqb_none, e_nea_none, e_neb_none, e_eqa_bool, e_eqb_bool, e_nea_bool, e_neb_bool, e_eqa_int, e_eqb_int, e_nea_int, e_neb_int, e_eqa_list, e_eqb_list, e_nea_list, e_neb_list, e_eqa_tuple, e_eqb_tuple, e_nea_tuple, e_neb_tuple, e_eqa_dict, e_eqb_dict, e_nea_dict, e_neb_dict, e_lt, e_le, e_gt, e_ge, e_isin, e_notin, e_is, e_isnt, e_add_ii, e_add_ss, e_add_tt, e_add_ll, e_sub_ii, e_mul_ii, e_mul_ti, e_mul_li, e_fdiv_ii, e_mod_ii, e_pow_ii, e_len_t, e_len_l, e_int_i, e_int_b, e_max_ii, e_min_ii, e_max_l, e_min_l, e_max_t, e_min_t, e_sum_l, e_sum_t, e_all_l, e_any_l, e_tuple_l, e_tuple_t, e_list_l, e_list_t, e_repr_d, e_divmod_ii, e_sorted_l, e_aug_add, e_aug_sub, nb, ogD, gD, at_hd h1, e, Rl.s]
    | on =>
      have hl : 1 ≤ vs.length := by have := hr.2 (.inl e); omega
      cases vs with
      | nil => simp at hl
      | cons v vs =>
        have hi : intsOf (on.map PyData.int ++ [.int v]) = some (on ++ [v]) := by
          have := intsOf_map (on ++ [v])
          simpa using this
        simp [runPure, runIo, runMk, b_notes_behind, p_notes_behind_1, p_notes_behind_2, p_notes_behind_3, p_notes_behind_4, p_notes_behind_7, f_notes_behind__QUIET, f_notes_behind__ON, f_notes_behind__OFF, mv, setOs, lim, targets, flats, tup, startE, slot, flatP, O.flat, share, frz, endO, intsOf, boolsOf, setAll, P.still, callD, callI, e_ixt, e_ixl, e_isi_int_none, e_isi_int_bool, e_isi_int_int, e_isi_int_str, e_isi_int_list, e_isi_int_tuple, e_isi_int_dict, e_isi_bool_none, e_isi_bool_bool, e_isi_bool_int, e_isi_bool_str, e_isi_bool_list, e_isi_bool_tuple, e_isi_bool_dict, e_isi_str_none, e_isi_str_bool, e_isi_str_int, e_isi_str_str, e_isi_str_list, e_isi_str_tuple, e_isi_str_dict, e_isi_tuple_none, e_isi_tuple_bool, e_isi_tuple_int, e_isi_tuple_str, e_isi_tuple_list, e_isi_tuple_tuple, e_isi_tuple_dict, e_isi_list_none, e_isi_list_bool, e_isi_list_int, e_isi_list_str, e_isi_list_list, e_isi_list_tuple, e_isi_list_dict, e_isi_dict_none, e_isi_dict_bool, e_isi_dict_int, e_isi_dict_str, e_isi_dict_list, e_isi_dict_tuple, e_isi_dict_dict, e_isN_none, e_isN_bool, e_isN_int, e_isN_str, e_isN_list, e_isN_tuple, e_isN_dict, e_tr_none, e_tr_bool, e_tr_int, e_tr_tuple, e_tr_list, e_row_tuple, e_row_list, e_sl_tuple, e_sl_list, e_set_name, e_set_tup, e_eq_ss, e_ne_ss, e_eqa_none, e_eqb_none, e_nea_none, e_neb_none, e_eqa_bool, e_eqb_bool, e_nea_bool, e_neb_bool, e_eqa_int, e_eqb_int, e_nea_int, e_neb_int, e_eqa_list, e_eqb_list, e_nea_list, e_neb_list, e_eqa_tuple, e_eqb_tuple, e_nea_tuple, e_neb_tuple, e_eqa_dict, e_eqb_dict, e_nea_dict, e_neb_dict, e_lt, e_le, e_gt, e_ge, e_isin, e_notin, e_is, e_isnt, e_add_ii, e_add_ss, e_add_tt, e_add_ll, e_sub_ii, e_mul_ii, e_mul_ti, e_mul_li, e_fdiv_ii, e_mod_ii, e_pow_ii, e_len_t, e_len_l, e_int_i, e_int_b, e_max_ii, e_min_ii, e_max_l, e_min_l, e_max_t, e_min_t, e_sum_l, e_sum_t, e_all_l, e_any_l, e_tuple_l, e_tuple_t, e_list_l, e_list_t, e_repr_d, e_divmod_ii, e_sorted_l, e_aug_add, e_aug_sub, nb, ogD, gD, at_hd h1, e, Rl.s, hi, l1, l2]
    | off =>
      have hl : 1 ≤ vs.length := by have := hr.2 (.inr e); omega
      cases vs with
      | nil => simp at hl
      | cons v vs =>
        have hc (x1 x2 x3 x4 : Option O) : compL (compTurn [5] (setT (.name 5)) (evalT G_notes_behind p_notes_behind_5) (evalE G_notes_behind p_notes_behind_6)) (on.map PyData.int) [x1, x2, x3, x4, some (.fz (.tuple (PyData.int v :: vs.map PyData.int))), none] =
            some (.ok ((wo v on).map PyData.int) [x1, x2, x3, x4, some (.fz (.tuple (PyData.int v :: vs.map PyData.int))), none]) := by
          have hf : ((on.map PyData.int).filter (notI v)) = (wo v on).map PyData.int := by
            rw [List.filter_map]; rfl
          rw [← hf]
          refine compL_filter _ fun d hd => ?_
          obtain ⟨x, _, rfl⟩ := List.mem_map.mp hd
          by_cases hx : x = v
          · simp [compTurn, p_notes_behind_5, p_notes_behind_6, mv, setOs, lim, targets, flats, tup, startE, slot, flatP, O.flat, share, frz, endO, intsOf, boolsOf, setAll, P.still, callD, callI, e_ixt, e_ixl, e_isi_int_none, e_isi_int_bool, e_isi_int_int, e_isi_int_str, e_isi_int_list, e_isi_int_tuple, e_isi_int_dict, e_isi_bool_none, e_isi_bool_bool, e_isi_bool_int, e_isi_bool_str, e_isi_bool_list, e_isi_bool_tuple, e_isi_bool_dict, e_isi_str_none, e_isi_str_bool, e_isi_str_int, e_isi_str_str, e_isi_str_list, e_isi_str_tuple, e_isi_str_dict, e_isi_tuple_none, e_isi_tuple_bool, e_isi_tuple_int, e_isi_tuple_str, e_isi_tuple_list, e_isi_tuple_tuple, e_isi_tuple_dict, e_isi_list_none, e_isi_list_bool, e_isi_list_int, e_isi_list_str, e_isi_list_list, e_isi_list_tuple, e_isi_list_dict, e_isi_dict_none, e_isi_dict_bool, e_isi_dict_int, e_isi_dict_str, e_isi_dict_list, e_isi_dict_tuple, e_isi_dict_dict, e_isN_none, e_isN_bool, e_isN_int, e_isN_str, e_isN_list, e_isN_tuple, e_isN_dict, e_tr_none, e_tr_bool, e_tr_int, e_tr_tuple, e_tr_list, e_row_tuple, e_row_list, e_sl_tuple, e_sl_list, e_set_name, e_set_tup, e_eq_ss, e_ne_ss, e_eqa_none, e_eqb_none, e_nea_none, e_neb_none, e_eqa_bool, e_eqb_bool, e_nea_bool, e_neb_bool, e_eqa_int, e_eqb_int, e_nea_int, e_neb_int, e_eqa_list, e_eqb_list, e_nea_list, e_neb_list, e_eqa_tuple, e_eqb_tuple, e_nea_tuple, e_neb_tuple, e_eqa_dict, e_eqb_dict, e_nea_dict, e_neb_dict, e_lt, e_le, e_gt, e_ge, e_isin, e_notin, e_is, e_isnt, e_add_ii, e_add_ss, e_add_tt, e_add_ll, e_sub_ii, e_mul_ii, e_mul_ti, e_mul_li, e_fdiv_ii, e_mod_ii, e_pow_ii, e_len_t, e_len_l, e_int_i, e_int_b, e_max_ii, e_min_ii, e_max_l, e_min_l, e_max_t, e_min_t, e_sum_l, e_sum_t, e_all_l, e_any_l, e_tuple_l, e_tuple_t, e_list_l, e_list_t, e_repr_d, e_divmod_ii, e_sorted_l, e_aug_add, e_aug_sub, wipeO, frOk, wipeE, notI, hx]
          · simp [compTurn, p_notes_behind_5, p_notes_behind_6, mv, setOs, lim, targets, flats, tup, startE, slot, flatP, O.flat, share, frz, endO, intsOf, boolsOf, setAll, P.still, callD, callI, e_ixt, e_ixl, e_isi_int_none, e_isi_int_bool, e_isi_int_int, e_isi_int_str, e_isi_int_list, e_isi_int_tuple, e_isi_int_dict, e_isi_bool_none, e_isi_bool_bool, e_isi_bool_int, e_isi_bool_str, e_isi_bool_list, e_isi_bool_tuple, e_isi_bool_dict, e_isi_str_none, e_isi_str_bool, e_isi_str_int, e_isi_str_str, e_isi_str_list, e_isi_str_tuple, e_isi_str_dict, e_isi_tuple_none, e_isi_tuple_bool, e_isi_tuple_int, e_isi_tuple_str, e_isi_tuple_list, e_isi_tuple_tuple, e_isi_tuple_dict, e_isi_list_none, e_isi_list_bool, e_isi_list_int, e_isi_list_str, e_isi_list_list, e_isi_list_tuple, e_isi_list_dict, e_isi_dict_none, e_isi_dict_bool, e_isi_dict_int, e_isi_dict_str, e_isi_dict_list, e_isi_dict_tuple, e_isi_dict_dict, e_isN_none, e_isN_bool, e_isN_int, e_isN_str, e_isN_list, e_isN_tuple, e_isN_dict, e_tr_none, e_tr_bool, e_tr_int, e_tr_tuple, e_tr_list, e_row_tuple, e_row_list, e_sl_tuple, e_sl_list, e_set_name, e_set_tup, e_eq_ss, e_ne_ss, e_eqa_none, e_eqb_none, e_nea_none, e_neb_none, e_eqa_bool, e_eqb_bool, e_nea_bool, e_neb_bool, e_eqa_int, e_eqb_int, e_nea_int, e_neb_int, e_eqa_list, e_eqb_list, e_nea_list, e_neb_list, e_eqa_tuple, e_eqb_tuple, e_nea_tuple, e_neb_tuple, e_eqa_dict, e_eqb_dict, e_nea_dict, e_neb_dict, e_lt, e_le, e_gt, e_ge, e_isin, e_notin, e_is, e_isnt, e_add_ii, e_add_ss, e_add_tt, e_add_ll, e_sub_ii, e_mul_ii, e_mul_ti, e_mul_li, e_fdiv_ii, e_mod_ii, e_pow_ii, e_len_t, e_len_l, e_int_i, e_int_b, e_max_ii, e_min_ii, e_max_l, e_min_l, e_max_t, e_min_t, e_sum_l, e_sum_t, e_all_l, e_any_l, e_tuple_l, e_tuple_t, e_list_l, e_list_t, e_repr_d, e_divmod_ii, e_sorted_l, e_aug_add, e_aug_sub, wipeO, frOk, wipeE, notI, hx]
        rw [show nb hs on (some (k, v :: vs)) = wo v on by unfold nb; simp only [e, List.headD_cons]]
        generalize wo v on = gs at hc ⊢
        simp [runPure, runIo, runMk, b_notes_behind, p_notes_behind_1, p_notes_behind_2, p_notes_behind_3, p_notes_behind_4, p_notes_behind_7, f_notes_behind__QUIET, f_notes_behind__ON, f_notes_behind__OFF, mv, setOs, lim, targets, flats, tup, startE, slot, flatP, O.flat, share, frz, endO, intsOf, boolsOf, setAll, P.still, callD, callI, e_ixt, e_ixl, e_isi_int_none, e_isi_int_bool, e_isi_int_int, e_isi_int_str, e_isi_int_list, e_isi_int_tuple, e_isi_int_dict, e_isi_bool_none, e_isi_bool_bool, e_isi_bool_int, e_isi_bool_str, e_isi_bool_list, e_isi_bool_tuple, e_isi_bool_dict, e_isi_str_none, e_isi_str_bool, e_isi_str_int, e_isi_str_str, e_isi_str_list, e_isi_str_tuple, e_isi_str_dict, e_isi_tuple_none, e_isi_tuple_bool, e_isi_tuple_int, e_isi_tuple_str, e_isi_tuple_list, e_isi_tuple_tuple, e_isi_tuple_dict, e_isi_list_none, e_isi_list_bool, e_isi_list_int, e_isi_list_str, e_isi_list_list, e_isi_list_tuple, e_isi_list_dict, e_isi_dict_none, e_isi_dict_bool, e_isi_dict_int, e_isi_dict_str, e_isi_dict_list, e_isi_dict_tuple, e_isi_dict_dict, e_isN_none, e_isN_bool, e_isN_int, e_isN_str, e_isN_list, e_isN_tuple, e_isN_dict, e_tr_none, e_tr_bool, e_tr_int, e_tr_tuple, e_tr_list, e_row_tuple, e_row_list, e_sl_tuple, e_sl_list, e_set_name, e_set_tup, e_eq_ss, e_ne_ss, e_eqa_none, e_eqb_none, e_nea_none, e_neb_none, e_eqa_bool, e_eqb_bool, e_nea_bool, e_neb_bool, e_eqa_int, e_eqb_int, e_nea_int, e_neb_int, e_eqa_list, e_eqb_list, e_nea_list, e_neb_list, e_eqa_tuple, e_eqb_tuple, e_nea_tuple, e_neb_tuple, e_eqa_dict, e_eqb_dict, e_nea_dict, e_neb_dict, e_lt, e_le, e_gt, e_ge, e_isin, e_notin, e_is, e_isnt, e_add_ii, e_add_ss, e_add_tt, e_add_ll, e_sub_ii, e_mul_ii, e_mul_ti, e_mul_li, e_fdiv_ii, e_mod_ii, e_pow_ii, e_len_t, e_len_l, e_int_i, e_int_b, e_max_ii, e_min_ii, e_max_l, e_min_l, e_max_t, e_min_t, e_sum_l, e_sum_t, e_all_l, e_any_l, e_tuple_l, e_tuple_t, e_list_l, e_list_t, e_repr_d, e_divmod_ii, e_sorted_l, e_aug_add, e_aug_sub, ogD, gD, at_hd h1, e, Rl.s, l3, tgIn, frOk, wipeE, hc, backE]
theorem read_loop {hs : Hs} {n m : Nat} (L : LOk hs n m) (S T : D) : ∀ (ss : List Sg) {p : Plc} {on : List Int} (hd : List (Nat × List Int)) (x7 x8 : Option O), plOk hs n p → onOk n on → (∀ s ∈ ss, sgOk hs n m s) → hd.length + ss.length ≤ 10000 →
    ∃ x7' x8', forL (bodyF (setT (.name 7)) (evalSs G_read_so 0 p_read_so_6)) (ss.map Sg.d) [some (.fz (lang hs n m)), some (.fz S), some (.fz T), some (.fz (hD p.1)), some (.fz (tup p.2)), some (.fz (tup on)), some (.lst (hd.map gD)), x7, x8] =
      some (.nx [some (.fz (lang hs n m)), some (.fz S), some (.fz T), some (.fz (hD (rd hs p on ss).1.1.1)), some (.fz (tup (rd hs p on ss).1.1.2)), some (.fz (tup (rd hs p on ss).1.2)), some (.lst ((hd ++ (rd hs p on ss).2).map gD)), x7', x8'])
  | [], p, on, hd, x7, x8, _, _, _, _ => ⟨x7, x8, by simp [forL, rd]⟩
  | s :: ss, p, on, hd, x7, x8, hp, ho, h, hl => by
    have hs1 := h s List.mem_cons_self
    obtain ⟨h1, h2⟩ := tk_ok L hp hs1
    have h3 := nb_ok L ho h2
    rw [List.length_cons] at hl
    have e1 := ev_taken L hp hs1
    have e2 := ev_notes_behind L ho h2
    have hb : bodyF (setT (.name 7)) (evalSs G_read_so 0 p_read_so_6) s.d [some (.fz (lang hs n m)), some (.fz S), some (.fz T), some (.fz (hD p.1)), some (.fz (tup p.2)), some (.fz (tup on)), some (.lst (hd.map gD)), x7, x8] =
        some (.nx [some (.fz (lang hs n m)), some (.fz S), some (.fz T), some (.fz (hD (tk hs p s).1.1)), some (.fz (tup (tk hs p s).1.2)), some (.fz (tup (nb hs on (tk hs p s).2))), some (.lst ((hd ++ (tk hs p s).2.toList).map gD)), some (.fz s.d), some (.fz (ogD (tk hs p s).2))]) := by
      simp only [tup] at e1 e2
      generalize hq : (tk hs p s).2 = q at e1 e2 ⊢
      generalize (tk hs p s).1.1 = q1 at e1 e2 ⊢
      generalize (tk hs p s).1.2 = q2 at e1 e2 ⊢
      generalize nb hs on q = q3 at e2 ⊢
      have hl2 : hd.length < 16777216 := by omega
      cases q with
      | none =>
        simp only [ogD] at e1 e2
        simp [bodyF, p_read_so_6, p_read_so_3, p_read_so_4, p_read_so_5, f_read_so__taken, f_read_so__notes_behind, mv, setOs, lim, targets, flats, tup, startE, slot, flatP, O.flat, share, frz, endO, intsOf, boolsOf, setAll, P.still, callD, callI, e_ixt, e_ixl, e_isi_int_none, e_isi_int_bool, e_isi_int_int, e_isi_int_str, e_isi_int_list, e_isi_int_tuple, e_isi_int_dict, e_isi_bool_none, e_isi_bool_bool, e_isi_bool_int, e_isi_bool_str, e_isi_bool_list, e_isi_bool_tuple, e_isi_bool_dict, e_isi_str_none, e_isi_str_bool, e_isi_str_int, e_isi_str_str, e_isi_str_list, e_isi_str_tuple, e_isi_str_dict, e_isi_tuple_none, e_isi_tuple_bool, e_isi_tuple_int, e_isi_tuple_str, e_isi_tuple_list, e_isi_tuple_tuple, e_isi_tuple_dict, e_isi_list_none, e_isi_list_bool, e_isi_list_int, e_isi_list_str, e_isi_list_list, e_isi_list_tuple, e_isi_list_dict, e_isi_dict_none, e_isi_dict_bool, e_isi_dict_int, e_isi_dict_str, e_isi_dict_list, e_isi_dict_tuple, e_isi_dict_dict, e_isN_none, e_isN_bool, e_isN_int, e_isN_str, e_isN_list, e_isN_tuple, e_isN_dict, e_tr_none, e_tr_bool, e_tr_int, e_tr_tuple, e_tr_list, e_row_tuple, e_row_list, e_sl_tuple, e_sl_list, e_set_name, e_set_tup, e_eq_ss, e_ne_ss, e_eqa_none, e_eqb_none, e_nea_none, e_neb_none, e_eqa_bool, e_eqb_bool, e_nea_bool, e_neb_bool, e_eqa_int, e_eqb_int, e_nea_int, e_neb_int, e_eqa_list, e_eqb_list, e_nea_list, e_neb_list, e_eqa_tuple, e_eqb_tuple, e_nea_tuple, e_neb_tuple, e_eqa_dict, e_eqb_dict, e_nea_dict, e_neb_dict, e_lt, e_le, e_gt, e_ge, e_isin, e_notin, e_is, e_isnt, e_add_ii, e_add_ss, e_add_tt, e_add_ll, e_sub_ii, e_mul_ii, e_mul_ti, e_mul_li, e_fdiv_ii, e_mod_ii, e_pow_ii, e_len_t, e_len_l, e_int_i, e_int_b, e_max_ii, e_min_ii, e_max_l, e_min_l, e_max_t, e_min_t, e_sum_l, e_sum_t, e_all_l, e_any_l, e_tuple_l, e_tuple_t, e_list_l, e_list_t, e_repr_d, e_divmod_ii, e_sorted_l, e_aug_add, e_aug_sub, e1, e2, ogD]
      | some x =>
        simp only [ogD, gD] at e1 e2
        simp [bodyF, p_read_so_6, p_read_so_3, p_read_so_4, p_read_so_5, f_read_so__taken, f_read_so__notes_behind, mv, setOs, lim, targets, flats, tup, startE, slot, flatP, O.flat, share, frz, endO, intsOf, boolsOf, setAll, P.still, callD, callI, e_ixt, e_ixl, e_isi_int_none, e_isi_int_bool, e_isi_int_int, e_isi_int_str, e_isi_int_list, e_isi_int_tuple, e_isi_int_dict, e_isi_bool_none, e_isi_bool_bool, e_isi_bool_int, e_isi_bool_str, e_isi_bool_list, e_isi_bool_tuple, e_isi_bool_dict, e_isi_str_none, e_isi_str_bool, e_isi_str_int, e_isi_str_str, e_isi_str_list, e_isi_str_tuple, e_isi_str_dict, e_isi_tuple_none, e_isi_tuple_bool, e_isi_tuple_int, e_isi_tuple_str, e_isi_tuple_list, e_isi_tuple_tuple, e_isi_tuple_dict, e_isi_list_none, e_isi_list_bool, e_isi_list_int, e_isi_list_str, e_isi_list_list, e_isi_list_tuple, e_isi_list_dict, e_isi_dict_none, e_isi_dict_bool, e_isi_dict_int, e_isi_dict_str, e_isi_dict_list, e_isi_dict_tuple, e_isi_dict_dict, e_isN_none, e_isN_bool, e_isN_int, e_isN_str, e_isN_list, e_isN_tuple, e_isN_dict, e_tr_none, e_tr_bool, e_tr_int, e_tr_tuple, e_tr_list, e_row_tuple, e_row_list, e_sl_tuple, e_sl_list, e_set_name, e_set_tup, e_eq_ss, e_ne_ss, e_eqa_none, e_eqb_none, e_nea_none, e_neb_none, e_eqa_bool, e_eqb_bool, e_nea_bool, e_neb_bool, e_eqa_int, e_eqb_int, e_nea_int, e_neb_int, e_eqa_list, e_eqb_list, e_nea_list, e_neb_list, e_eqa_tuple, e_eqb_tuple, e_nea_tuple, e_neb_tuple, e_eqa_dict, e_eqb_dict, e_nea_dict, e_neb_dict, e_lt, e_le, e_gt, e_ge, e_isin, e_notin, e_is, e_isnt, e_add_ii, e_add_ss, e_add_tt, e_add_ll, e_sub_ii, e_mul_ii, e_mul_ti, e_mul_li, e_fdiv_ii, e_mod_ii, e_pow_ii, e_len_t, e_len_l, e_int_i, e_int_b, e_max_ii, e_min_ii, e_max_l, e_min_l, e_max_t, e_min_t, e_sum_l, e_sum_t, e_all_l, e_any_l, e_tuple_l, e_tuple_t, e_list_l, e_list_t, e_repr_d, e_divmod_ii, e_sorted_l, e_aug_add, e_aug_sub, e1, e2, ogD, gD, isLst, appO, hl2]
    obtain ⟨x7', x8', e⟩ := read_loop L S T ss (hd ++ (tk hs p s).2.toList) (some (.fz s.d)) (some (.fz (ogD (tk hs p s).2))) h1 h3 (fun x hx => h x (List.mem_cons_of_mem _ hx)) (by
      rw [List.length_append]
      have : (tk hs p s).2.toList.length ≤ 1 := by cases (tk hs p s).2 <;> simp
      omega)
    refine ⟨x7', x8', ?_⟩
    rw [List.map_cons]
    unfold forL
    rw [hb]
    simp only
    rw [e]
    simp only [rd, List.append_assoc]
theorem ev_read_so {hs : Hs} {n m : Nat} (L : LOk hs n m) {p : Plc} {on : List Int} (hp : plOk hs n p) (ho : onOk n on) {ss : List Sg} (h : ∀ s ∈ ss, sgOk hs n m s) (hl : ss.length ≤ 1000) :
    M_read_so [lang hs n m, stD p on, .tuple (ss.map Sg.d)] = some (.ok (.tuple [stD (rd hs p on ss).1.1 (rd hs p on ss).1.2, .list ((rd hs p on ss).2.map gD)])) := by
  obtain ⟨x7, x8, e⟩ := read_loop L (stD p on) (.tuple (ss.map Sg.d)) ss (hd := []) none none hp ho h (by simp; omega)
  have hst : setT (.tup [3, 4, 5]) (stD p on) [some (.fz (lang hs n m)), some (.fz (stD p on)), some (.fz (.tuple (ss.map Sg.d))), none, none, none, none, none, none] = some [some (.fz (lang hs n m)), some (.fz (stD p on)), some (.fz (.tuple (ss.map Sg.d))), some (.fz (hD p.1)), some (.fz (tup p.2)), some (.fz (tup on)), none, none, none] := rfl
  unfold M_read_so
  simp only [List.map_nil, List.nil_append, tup] at e hst
  generalize (rd hs p on ss).2 = r2 at e ⊢
  generalize (rd hs p on ss).1 = r1 at e ⊢
  rw [show stD r1.1 r1.2 = .tuple [hD r1.1.1, tup r1.1.2, tup r1.2] from rfl]
  simp [runPure, runIo, runMk, b_read_so, p_read_so_1, p_read_so_2, p_read_so_3, p_read_so_4, p_read_so_5, p_read_so_7, p_read_so_8, f_read_so__taken, f_read_so__notes_behind, mv, setOs, lim, targets, flats, tup, startE, slot, flatP, O.flat, share, frz, endO, intsOf, boolsOf, setAll, P.still, callD, callI, e_ixt, e_ixl, e_isi_int_none, e_isi_int_bool, e_isi_int_int, e_isi_int_str, e_isi_int_list, e_isi_int_tuple, e_isi_int_dict, e_isi_bool_none, e_isi_bool_bool, e_isi_bool_int, e_isi_bool_str, e_isi_bool_list, e_isi_bool_tuple, e_isi_bool_dict, e_isi_str_none, e_isi_str_bool, e_isi_str_int, e_isi_str_str, e_isi_str_list, e_isi_str_tuple, e_isi_str_dict, e_isi_tuple_none, e_isi_tuple_bool, e_isi_tuple_int, e_isi_tuple_str, e_isi_tuple_list, e_isi_tuple_tuple, e_isi_tuple_dict, e_isi_list_none, e_isi_list_bool, e_isi_list_int, e_isi_list_str, e_isi_list_list, e_isi_list_tuple, e_isi_list_dict, e_isi_dict_none, e_isi_dict_bool, e_isi_dict_int, e_isi_dict_str, e_isi_dict_list, e_isi_dict_tuple, e_isi_dict_dict, e_isN_none, e_isN_bool, e_isN_int, e_isN_str, e_isN_list, e_isN_tuple, e_isN_dict, e_tr_none, e_tr_bool, e_tr_int, e_tr_tuple, e_tr_list, e_row_tuple, e_row_list, e_sl_tuple, e_sl_list, e_set_name, e_set_tup, e_eq_ss, e_ne_ss, e_eqa_none, e_eqb_none, e_nea_none, e_neb_none, e_eqa_bool, e_eqb_bool, e_nea_bool, e_neb_bool, e_eqa_int, e_eqb_int, e_nea_int, e_neb_int, e_eqa_list, e_eqb_list, e_nea_list, e_neb_list, e_eqa_tuple, e_eqb_tuple, e_nea_tuple, e_neb_tuple, e_eqa_dict, e_eqb_dict, e_nea_dict, e_neb_dict, e_lt, e_le, e_gt, e_ge, e_isin, e_notin, e_is, e_isnt, e_add_ii, e_add_ss, e_add_tt, e_add_ll, e_sub_ii, e_mul_ii, e_mul_ti, e_mul_li, e_fdiv_ii, e_mod_ii, e_pow_ii, e_len_t, e_len_l, e_int_i, e_int_b, e_max_ii, e_min_ii, e_max_l, e_min_l, e_max_t, e_min_t, e_sum_l, e_sum_t, e_all_l, e_any_l, e_tuple_l, e_tuple_t, e_list_l, e_list_t, e_repr_d, e_divmod_ii, e_sorted_l, e_aug_add, e_aug_sub, hst, e, targets]
end NW
end
section
set_option Elab.async false
set_option linter.all false
set_option maxRecDepth 100000
set_option maxHeartbeats 2000000
namespace NW
open PySem L2
@[simp] theorem st_ix0 (p : Plc) (on : List Int) : ixD (stD p on) (.int 0) = some (hD p.1) := by simp [stD, ixD]
@[simp] theorem st_ix1 (p : Plc) (on : List Int) : ixD (stD p on) (.int 1) = some (tup p.2) := by simp [stD, ixD]
@[simp] theorem st_ix2 (p : Plc) (on : List Int) : ixD (stD p on) (.int 2) = some (tup on) := by simp [stD, ixD]
@[simp] theorem st_isi (p : Plc) (on : List Int) : isiD .tuple (stD p on) = true := rfl
@[simp] theorem st_len (p : Plc) (on : List Int) : biO .len [stD p on] = some (.fz (.int 3)) := rfl
/-! all standings -/
def rowsAt (n : Nat) : Nat → List (List Int)
  | 0 => [[]]
  | a + 1 => ((rowsAt n a).map fun r => (List.range n).map fun v : Nat => r ++ [(v : Int)]).flatten
def plK (hs : Hs) (n k : Nat) : List Plc := ((List.range (rw' hs k).2).map fun a => (rowsAt n a).map fun r => ((some k, r) : Plc)).flatten
def plcs (hs : Hs) (n : Nat) : List Plc := (none, []) :: ((List.range hs.length).map (plK hs n)).flatten
def lots : Nat → List (List Int)
  | 0 => [[]]
  | k + 1 => lots k ++ (lots k).map fun l => l ++ [(k : Int)]
def plD (p : Plc) : D := .tuple [hD p.1, tup p.2]
def sts (hs : Hs) (n : Nat) : List D := ((plcs hs n).map fun p => (lots n).map fun on => stD p on).flatten
theorem flat_len {α β : Type} {f : α → List β} {b : Nat} : ∀ {l : List α}, (∀ a ∈ l, (f a).length ≤ b) → ((l.map f).flatten).length ≤ l.length * b
  | [], _ => by simp
  | a :: l, h => by
    rw [List.map_cons, List.flatten_cons, List.length_append, List.length_cons, Nat.succ_mul]
    have := h a List.mem_cons_self
    have := flat_len (l := l) fun x hx => h x (List.mem_cons_of_mem _ hx)
    omega
theorem rowsAt_len (n : Nat) : ∀ a, (rowsAt n a).length ≤ n ^ a
  | 0 => by simp [rowsAt]
  | a + 1 => by
    have := flat_len (f := fun r => (List.range n).map fun v : Nat => r ++ [(v : Int)]) (b := n) (l := rowsAt n a) (fun r _ => by simp)
    have h := Nat.mul_le_mul_right n (rowsAt_len n a)
    rw [Nat.pow_succ]
    exact Nat.le_trans this h
theorem rowsAt_ok {n : Nat} : ∀ {a : Nat} {r : List Int}, r ∈ rowsAt n a → r.length = a ∧ vlOk n r
  | 0, r, h => by
    simp only [rowsAt, List.mem_singleton] at h
    subst h
    exact ⟨rfl, fun x hx => nomatch hx⟩
  | a + 1, r, h => by
    simp only [rowsAt, List.mem_flatten, List.mem_map, List.mem_range] at h
    obtain ⟨l, ⟨r', hr', rfl⟩, hm⟩ := h
    simp only [List.mem_map, List.mem_range] at hm
    obtain ⟨v, hv, rfl⟩ := hm
    obtain ⟨h1, h2⟩ := rowsAt_ok hr'
    refine ⟨by rw [List.length_append, h1]; rfl, fun x hx => ?_⟩
    rcases List.mem_append.mp hx with z | z
    · exact h2 x z
    · rw [List.mem_singleton] at z; subst z; omega
theorem plcs_ok {hs : Hs} {n : Nat} {p : Plc} (h : p ∈ plcs hs n) : plOk hs n p := by
  rcases List.mem_cons.mp h with rfl | h
  · exact rfl
  · simp only [List.mem_flatten, List.mem_map, List.mem_range] at h
    obtain ⟨l, ⟨k, hk, rfl⟩, hm⟩ := h
    unfold plK at hm
    simp only [List.mem_flatten, List.mem_map, List.mem_range] at hm
    obtain ⟨l, ⟨a, ha, rfl⟩, hm⟩ := hm
    simp only [List.mem_map] at hm
    obtain ⟨r, hr, rfl⟩ := hm
    obtain ⟨h1, h2⟩ := rowsAt_ok hr
    exact ⟨hk, by simp only [h1]; exact ha, h2⟩
theorem lots_ok : ∀ {n : Nat} {on : List Int}, on ∈ lots n → onOk n on
  | 0, on, h => by
    simp only [lots, List.mem_singleton] at h
    subst h
    exact ⟨.nil, fun x hx => nomatch hx⟩
  | k + 1, on, h => by
    simp only [lots, List.mem_append, List.mem_map] at h
    rcases h with h | ⟨l, hl, rfl⟩
    · obtain ⟨h1, h2⟩ := lots_ok h
      exact ⟨h1, fun x hx => by have := h2 x hx; omega⟩
    · obtain ⟨h1, h2⟩ := lots_ok hl
      refine ⟨List.pairwise_append.mpr ⟨h1, by simp, fun a ha b hb => ?_⟩, fun x hx => ?_⟩
      · rw [List.mem_singleton] at hb; subst hb
        exact (h2 a ha).2
      · rcases List.mem_append.mp hx with z | z
        · have := h2 x z; omega
        · rw [List.mem_singleton] at z; subst z; omega
theorem lots_len : ∀ n, (lots n).length = 2 ^ n
  | 0 => rfl
  | k + 1 => by rw [lots, List.length_append, List.length_map, lots_len k, Nat.pow_succ]; omega
theorem plK_len {hs : Hs} {n m : Nat} (L : LOk hs n m) (k : Nat) : (plK hs n k).length ≤ 8 := by
  have hr := (rw_ok L k).1
  have := flat_len (f := fun a => (rowsAt n a).map fun r => ((some k, r) : Plc)) (b := 4) (l := List.range (rw' hs k).2) (fun a ha => by
    rw [List.length_map]
    have h := rowsAt_len n a
    rw [List.mem_range] at ha
    have hn := L.n4
    have h1 := L.n1
    have : n ^ a ≤ n ^ 1 := Nat.pow_le_pow_right h1 (by omega)
    rw [Nat.pow_one] at this
    omega)
  rw [List.length_range] at this
  unfold plK
  omega
theorem plcs_len {hs : Hs} {n m : Nat} (L : LOk hs n m) : (plcs hs n).length ≤ 33 := by
  have := flat_len (f := plK hs n) (b := 8) (l := List.range hs.length) (fun a _ => plK_len L a)
  rw [List.length_range] at this
  have := L.h4
  unfold plcs
  rw [List.length_cons]
  omega
theorem lots_le {n : Nat} (h : n ≤ 4) : (lots n).length ≤ 16 := by
  rw [lots_len]
  exact Nat.le_trans (Nat.pow_le_pow_right (by omega) h) (by decide)
theorem sts_len {hs : Hs} {n m : Nat} (L : LOk hs n m) : (sts hs n).length ≤ 528 := by
  have := flat_len (f := fun p => (lots n).map fun on => stD p on) (b := 16) (l := plcs hs n) (fun p _ => by rw [List.length_map]; exact lots_le L.n4)
  have := plcs_len L
  unfold sts
  omega
theorem sts_mem {hs : Hs} {n m : Nat} (L : LOk hs n m) {d : D} (h : d ∈ sts hs n) : ∃ p on, d = stD p on ∧ plOk hs n p ∧ onOk n on := by
  unfold sts at h
  simp only [List.mem_flatten, List.mem_map] at h
  obtain ⟨l, ⟨p, hp, rfl⟩, hm⟩ := h
  simp only [List.mem_map] at hm
  obtain ⟨on, hon, rfl⟩ := hm
  exact ⟨p, on, rfl, plcs_ok hp, lots_ok hon⟩
theorem fine_tup {n N c : Nat} {xs : List Int} (h : vlOk n xs) (hn : n ≤ 1000) (hl : xs.length ≤ N) (hc : 67 * N + 3 ≤ c) : Fine 1 c (tup xs) := by
  refine Fine.tuple (k := 0) (c := 65) (N := N) (fun x hx => ?_) (by rw [List.length_map]; exact hl) hc
  obtain ⟨i, hi, rfl⟩ := List.mem_map.mp hx
  have := h i hi
  exact Fine.int (by omega)
theorem fine_hD {hs : Hs} {n m : Nat} (L : LOk hs n m) {p : Plc} (hp : plOk hs n p) : Fine 0 65 (hD p.1) := by
  obtain ⟨o, got⟩ := p
  cases o with
  | none => exact Fine.int (by decide)
  | some k =>
    obtain ⟨h1, _⟩ := hp
    have := L.h4
    exact Fine.nat (by omega)
theorem pl_len {hs : Hs} {n m : Nat} (L : LOk hs n m) {p : Plc} (hp : plOk hs n p) : p.2.length ≤ 2 ∧ vlOk n p.2 := by
  obtain ⟨o, got⟩ := p
  cases o with
  | none =>
    have : got = [] := hp
    subst this
    exact ⟨by simp, fun x hx => nomatch hx⟩
  | some k =>
    obtain ⟨h1, h2, h3⟩ := hp
    have := (rw_ok L k).1
    exact ⟨by simp only at *; omega, h3⟩
theorem fine_st {hs : Hs} {n m : Nat} (L : LOk hs n m) {p : Plc} (hp : plOk hs n p) {on : List Int} (ho : onOk n on) : Fine 2 900 (stD p on) := by
  have hn := L.n4
  refine Fine.tuple (k := 1) (c := 290) (N := 3) (fun x hx => ?_) (by simp) (by omega)
  simp only [List.mem_cons, List.not_mem_nil, or_false] at hx
  rcases hx with rfl | rfl | rfl
  · exact (fine_hD L hp).mono (by omega) (by omega)
  · obtain ⟨h1, h2⟩ := pl_len L hp
    exact fine_tup (N := 4) h2 (by omega) (by omega) (by omega)
  · exact fine_tup (N := 4) ho.2 (by omega) (by have := on_len ho; omega) (by omega)
theorem alike_ints : ∀ (xs ys : List Int), PySem.W.alikeAll (xs.map PyData.int) (ys.map PyData.int) = true
  | [], ys => by cases ys <;> simp [PySem.W.alikeAll]
  | x :: xs, [] => by simp [PySem.W.alikeAll]
  | x :: xs, y :: ys => by simp [PySem.W.alikeAll, PySem.W.alike, alike_ints xs ys]
theorem hD_int (o : Option Nat) : ∃ i : Int, hD o = .int i := by cases o <;> exact ⟨_, rfl⟩
theorem sts_sortOk {hs : Hs} {n m : Nat} (L : LOk hs n m) : sortOk (sts hs n) = true := by
  refine sortOk_iff.mpr ⟨fun d hd d' hd' => ?_, .inl fun d hd => ?_, fun d hd => ?_⟩
  · obtain ⟨p, on, rfl, _, _⟩ := sts_mem L hd
    obtain ⟨p', on', rfl, _, _⟩ := sts_mem L hd'
    obtain ⟨i, hi⟩ := hD_int p.1
    obtain ⟨j, hj⟩ := hD_int p'.1
    unfold stD
    rw [hi, hj]
    simp [PySem.W.alikeAll, PySem.W.alike, alike_ints]
  · obtain ⟨p, on, rfl, _, _⟩ := sts_mem L hd
    exact ⟨_, _, rfl⟩
  · obtain ⟨p, on, rfl, hp, ho⟩ := sts_mem L hd
    have := (fine_st L hp ho).dep
    omega
/-- all standings, ascending -/
noncomputable def stsS (hs : Hs) (n : Nat) : List D := sortD (sts hs n)
theorem stsS_mem {hs : Hs} {n : Nat} {d : D} : d ∈ stsS hs n ↔ d ∈ sts hs n := by
  unfold stsS
  rw [sortD_def]
  exact List.mem_mergeSort
theorem stsS_len {hs : Hs} {n : Nat} : (stsS hs n).length = (sts hs n).length := by
  unfold stsS
  rw [sortD_def]
  exact List.length_mergeSort _
theorem fine_sts {hs : Hs} {n m : Nat} (L : LOk hs n m) : Fine 3 500000 (.tuple (stsS hs n)) := by
  refine Fine.tuple (k := 2) (c := 900) (N := 528) (fun x hx => ?_) (by rw [stsS_len]; exact sts_len L) (by omega)
  obtain ⟨p, on, rfl, hp, ho⟩ := sts_mem L (stsS_mem.mp hx)
  exact fine_st L hp ho
/-! the program's list of them -/
def plRow (k : Nat) (r : List Int) : Plc := (some k, r)
theorem pl_turn {hs : Hs} {n m : Nat} (L : LOk hs n m) (k a : Nat) (hk : k < hs.length) (fd : List Plc) (rows : List (List Int)) (hf : fd.length + rows.length ≤ 10000) (hr : rows.length ≤ 100) (hrl : ∀ r ∈ rows, r.length ≤ 1000) (x4 : Option O) :
    bodyF (setT (.name 4)) (evalSs G_places_of 0 p_places_of_7) (.int (a : Nat)) [some (.fz (lang hs n m)), some (.lst (fd.map plD)), some (.fz (.int (k : Nat))), some (.lst (rows.map tup)), x4, none, none] =
    some (.nx [some (.fz (lang hs n m)), some (.lst ((fd ++ rows.map (plRow k)).map plD)), some (.fz (.int (k : Nat))), some (.lst (((rows.map fun r => (List.range n).map fun v : Nat => r ++ [(v : Int)]).flatten).map tup)), some (.fz (.int (a : Nat))), none, none]) := by
  have hn := L.n4
  have c1 (x1 : Option O) : compL (compTurn [5] (setT (.name 5)) (evalT G_places_of .yes) (evalE G_places_of p_places_of_3)) (rows.map tup) [some (.fz (lang hs n m)), x1, some (.fz (.int (k : Nat))), some (.fz (.list (rows.map tup))), some (.fz (.int (a : Nat))), none, none] =
      some (.ok (rows.map fun r => plD (plRow k r)) [some (.fz (lang hs n m)), x1, some (.fz (.int (k : Nat))), some (.fz (.list (rows.map tup))), some (.fz (.int (a : Nat))), none, none]) := by
    refine compL_fun _ _ fun r hr => ?_
    simp [compTurn, p_places_of_3, mv, setOs, lim, targets, flats, tup, startE, slot, flatP, O.flat, share, frz, endO, intsOf, boolsOf, setAll, P.still, callD, callI, e_ixt, e_ixl, e_isi_int_none, e_isi_int_bool, e_isi_int_int, e_isi_int_str, e_isi_int_list, e_isi_int_tuple, e_isi_int_dict, e_isi_bool_none, e_isi_bool_bool, e_isi_bool_int, e_isi_bool_str, e_isi_bool_list, e_isi_bool_tuple, e_isi_bool_dict, e_isi_str_none, e_isi_str_bool, e_isi_str_int, e_isi_str_str, e_isi_str_list, e_isi_str_tuple, e_isi_str_dict, e_isi_tuple_none, e_isi_tuple_bool, e_isi_tuple_int, e_isi_tuple_str, e_isi_tuple_list, e_isi_tuple_tuple, e_isi_tuple_dict, e_isi_list_none, e_isi_list_bool, e_isi_list_int, e_isi_list_str, e_isi_list_list, e_isi_list_tuple, e_isi_list_dict, e_isi_dict_none, e_isi_dict_bool, e_isi_dict_int, e_isi_dict_str, e_isi_dict_list, e_isi_dict_tuple, e_isi_dict_dict, e_isN_none, e_isN_bool, e_isN_int, e_isN_str, e_isN_list, e_isN_tuple, e_isN_dict, e_tr_none, e_tr_bool, e_tr_int, e_tr_tuple, e_tr_list, e_row_tuple, e_row_list, e_sl_tuple, e_sl_list, e_set_name, e_set_tup, e_eq_ss, e_ne_ss, e_eqa_none, e_eqb_none, e_nea_none, e_neb_none, e_eqa_bool, e_eqb_bool, e_nea_bool, e_neb_bool, e_eqa_int, e_eqb_int, e_nea_int, e_neb_int, e_eqa_list, e_eqb_list, e_nea_list, e_neb_list, e_eqa_tuple, e_eqb_tuple, e_nea_tuple, e_neb_tuple, e_eqa_dict, e_eqb_dict, e_nea_dict, e_neb_dict, e_lt, e_le, e_gt, e_ge, e_isin, e_notin, e_is, e_isnt, e_add_ii, e_add_ss, e_add_tt, e_add_ll, e_sub_ii, e_mul_ii, e_mul_ti, e_mul_li, e_fdiv_ii, e_mod_ii, e_pow_ii, e_len_t, e_len_l, e_int_i, e_int_b, e_max_ii, e_min_ii, e_max_l, e_min_l, e_max_t, e_min_t, e_sum_l, e_sum_t, e_all_l, e_any_l, e_tuple_l, e_tuple_t, e_list_l, e_list_t, e_repr_d, e_divmod_ii, e_sorted_l, e_aug_add, e_aug_sub, wipeO, frOk, wipeE, plD, plRow]
  have q3 : rngOk (n : Int) = true := rngOk_nat (by omega)
  have c2 (x1 : Option O) : compL2 (compTurn2 [5, 6] [6] (setT (.name 5)) (evalI G_places_of (.rng (.ix (.var 0) (.lit (.int 1))))) (compTurn [6] (setT (.name 6)) (fun e => some (.ok true e)) (evalE G_places_of p_places_of_5))) (rows.map tup) [some (.fz (lang hs n m)), x1, some (.fz (.int (k : Nat))), some (.fz (.list (rows.map tup))), some (.fz (.int (a : Nat))), none, none] =
      some (.ok (((rows.map fun r => (List.range n).map fun v : Nat => tup (r ++ [(v : Int)])).flatten)) [some (.fz (lang hs n m)), x1, some (.fz (.int (k : Nat))), some (.fz (.list (rows.map tup))), some (.fz (.int (a : Nat))), none, none]) := by
    refine compL2_fun _ _ fun r hr' => ?_
    have c3 : compL (compTurn [6] (setT (.name 6)) (fun e => some (.ok true e)) (evalE G_places_of p_places_of_5)) (rangeD 0 n) [some (.fz (lang hs n m)), x1, some (.fz (.int (k : Nat))), some (.fz (.list (rows.map tup))), some (.fz (.int (a : Nat))), some (.fz (tup r)), none] =
        some (.ok ((List.range n).map fun v : Nat => tup (r ++ [(v : Int)])) [some (.fz (lang hs n m)), x1, some (.fz (.int (k : Nat))), some (.fz (.list (rows.map tup))), some (.fz (.int (a : Nat))), some (.fz (tup r)), none]) := by
      rw [rangeD_zero]
      refine compL_fun _ _ fun v hv => ?_
      have := hrl r hr'
      have h1 : r.length + 1 ≤ 16777216 := by omega
      simp [compTurn, p_places_of_5, mv, setOs, lim, targets, flats, tup, startE, slot, flatP, O.flat, share, frz, endO, intsOf, boolsOf, setAll, P.still, callD, callI, e_ixt, e_ixl, e_isi_int_none, e_isi_int_bool, e_isi_int_int, e_isi_int_str, e_isi_int_list, e_isi_int_tuple, e_isi_int_dict, e_isi_bool_none, e_isi_bool_bool, e_isi_bool_int, e_isi_bool_str, e_isi_bool_list, e_isi_bool_tuple, e_isi_bool_dict, e_isi_str_none, e_isi_str_bool, e_isi_str_int, e_isi_str_str, e_isi_str_list, e_isi_str_tuple, e_isi_str_dict, e_isi_tuple_none, e_isi_tuple_bool, e_isi_tuple_int, e_isi_tuple_str, e_isi_tuple_list, e_isi_tuple_tuple, e_isi_tuple_dict, e_isi_list_none, e_isi_list_bool, e_isi_list_int, e_isi_list_str, e_isi_list_list, e_isi_list_tuple, e_isi_list_dict, e_isi_dict_none, e_isi_dict_bool, e_isi_dict_int, e_isi_dict_str, e_isi_dict_list, e_isi_dict_tuple, e_isi_dict_dict, e_isN_none, e_isN_bool, e_isN_int, e_isN_str, e_isN_list, e_isN_tuple, e_isN_dict, e_tr_none, e_tr_bool, e_tr_int, e_tr_tuple, e_tr_list, e_row_tuple, e_row_list, e_sl_tuple, e_sl_list, e_set_name, e_set_tup, e_eq_ss, e_ne_ss, e_eqa_none, e_eqb_none, e_nea_none, e_neb_none, e_eqa_bool, e_eqb_bool, e_nea_bool, e_neb_bool, e_eqa_int, e_eqb_int, e_nea_int, e_neb_int, e_eqa_list, e_eqb_list, e_nea_list, e_neb_list, e_eqa_tuple, e_eqb_tuple, e_nea_tuple, e_neb_tuple, e_eqa_dict, e_eqb_dict, e_nea_dict, e_neb_dict, e_lt, e_le, e_gt, e_ge, e_isin, e_notin, e_is, e_isnt, e_add_ii, e_add_ss, e_add_tt, e_add_ll, e_sub_ii, e_mul_ii, e_mul_ti, e_mul_li, e_fdiv_ii, e_mod_ii, e_pow_ii, e_len_t, e_len_l, e_int_i, e_int_b, e_max_ii, e_min_ii, e_max_l, e_min_l, e_max_t, e_min_t, e_sum_l, e_sum_t, e_all_l, e_any_l, e_tuple_l, e_tuple_t, e_list_l, e_list_t, e_repr_d, e_divmod_ii, e_sorted_l, e_aug_add, e_aug_sub, wipeO, frOk, wipeE, h1]
    simp [compTurn2, mv, setOs, lim, targets, flats, tup, startE, slot, flatP, O.flat, share, frz, endO, intsOf, boolsOf, setAll, P.still, callD, callI, e_ixt, e_ixl, e_isi_int_none, e_isi_int_bool, e_isi_int_int, e_isi_int_str, e_isi_int_list, e_isi_int_tuple, e_isi_int_dict, e_isi_bool_none, e_isi_bool_bool, e_isi_bool_int, e_isi_bool_str, e_isi_bool_list, e_isi_bool_tuple, e_isi_bool_dict, e_isi_str_none, e_isi_str_bool, e_isi_str_int, e_isi_str_str, e_isi_str_list, e_isi_str_tuple, e_isi_str_dict, e_isi_tuple_none, e_isi_tuple_bool, e_isi_tuple_int, e_isi_tuple_str, e_isi_tuple_list, e_isi_tuple_tuple, e_isi_tuple_dict, e_isi_list_none, e_isi_list_bool, e_isi_list_int, e_isi_list_str, e_isi_list_list, e_isi_list_tuple, e_isi_list_dict, e_isi_dict_none, e_isi_dict_bool, e_isi_dict_int, e_isi_dict_str, e_isi_dict_list, e_isi_dict_tuple, e_isi_dict_dict, e_isN_none, e_isN_bool, e_isN_int, e_isN_str, e_isN_list, e_isN_tuple, e_isN_dict, e_tr_none, e_tr_bool, e_tr_int, e_tr_tuple, e_tr_list, e_row_tuple, e_row_list, e_sl_tuple, e_sl_list, e_set_name, e_set_tup, e_eq_ss, e_ne_ss, e_eqa_none, e_eqb_none, e_nea_none, e_neb_none, e_eqa_bool, e_eqb_bool, e_nea_bool, e_neb_bool, e_eqa_int, e_eqb_int, e_nea_int, e_neb_int, e_eqa_list, e_eqb_list, e_nea_list, e_neb_list, e_eqa_tuple, e_eqb_tuple, e_nea_tuple, e_neb_tuple, e_eqa_dict, e_eqb_dict, e_nea_dict, e_neb_dict, e_lt, e_le, e_gt, e_ge, e_isin, e_notin, e_is, e_isnt, e_add_ii, e_add_ss, e_add_tt, e_add_ll, e_sub_ii, e_mul_ii, e_mul_ti, e_mul_li, e_fdiv_ii, e_mod_ii, e_pow_ii, e_len_t, e_len_l, e_int_i, e_int_b, e_max_ii, e_min_ii, e_max_l, e_min_l, e_max_t, e_min_t, e_sum_l, e_sum_t, e_all_l, e_any_l, e_tuple_l, e_tuple_t, e_list_l, e_list_t, e_repr_d, e_divmod_ii, e_sorted_l, e_aug_add, e_aug_sub, q3, frOk, wipeE, c3]
  have hl1 : rows.length ≤ 16777216 := by omega
  have hl2 : fd.length + rows.length ≤ 16777216 := by omega
  have hl3 : ((rows.map fun r => (List.range n).map fun v : Nat => tup (r ++ [(v : Int)])).flatten).length ≤ 16777216 := by
    have := flat_len (f := fun r => (List.range n).map fun v : Nat => tup (r ++ [(v : Int)])) (b := 4) (l := rows) (fun r _ => by simp; omega)
    omega
  have hm : ((rows.map fun r => (List.range n).map fun v : Nat => r ++ [(v : Int)]).flatten).map tup = (rows.map fun r => (List.range n).map fun v : Nat => tup (r ++ [(v : Int)])).flatten := by
    rw [List.map_flatten, List.map_map]
    congr 1
    apply List.map_congr_left
    intro r hr
    simp
  have hm1 : (fd ++ rows.map (plRow k)).map plD = fd.map plD ++ rows.map fun r => plD (plRow k r) := by simp
  rw [hm, hm1]
  generalize (rows.map fun r => (List.range n).map fun v : Nat => tup (r ++ [(v : Int)])).flatten = R2 at c2 hl3 ⊢
  have hg : (rows.map fun r => plD (plRow k r)).length = rows.length := List.length_map ..
  generalize (rows.map fun r => plD (plRow k r)) = R1 at c1 hg ⊢
  have hg2 : (rows.map tup).length = rows.length := List.length_map ..
  generalize rows.map tup = R0 at c1 c2 hg2 ⊢
  have hg3 : (fd.map plD).length = fd.length := List.length_map ..
  generalize fd.map plD = F0 at c1 c2 hg3 ⊢
  rw [← hg2] at hl1
  rw [← hg, ← hg3] at hl2
  simp [bodyF, p_places_of_7, p_places_of_4, p_places_of_6, mv, setOs, lim, targets, flats, tup, startE, slot, flatP, O.flat, share, frz, endO, intsOf, boolsOf, setAll, P.still, callD, callI, e_ixt, e_ixl, e_isi_int_none, e_isi_int_bool, e_isi_int_int, e_isi_int_str, e_isi_int_list, e_isi_int_tuple, e_isi_int_dict, e_isi_bool_none, e_isi_bool_bool, e_isi_bool_int, e_isi_bool_str, e_isi_bool_list, e_isi_bool_tuple, e_isi_bool_dict, e_isi_str_none, e_isi_str_bool, e_isi_str_int, e_isi_str_str, e_isi_str_list, e_isi_str_tuple, e_isi_str_dict, e_isi_tuple_none, e_isi_tuple_bool, e_isi_tuple_int, e_isi_tuple_str, e_isi_tuple_list, e_isi_tuple_tuple, e_isi_tuple_dict, e_isi_list_none, e_isi_list_bool, e_isi_list_int, e_isi_list_str, e_isi_list_list, e_isi_list_tuple, e_isi_list_dict, e_isi_dict_none, e_isi_dict_bool, e_isi_dict_int, e_isi_dict_str, e_isi_dict_list, e_isi_dict_tuple, e_isi_dict_dict, e_isN_none, e_isN_bool, e_isN_int, e_isN_str, e_isN_list, e_isN_tuple, e_isN_dict, e_tr_none, e_tr_bool, e_tr_int, e_tr_tuple, e_tr_list, e_row_tuple, e_row_list, e_sl_tuple, e_sl_list, e_set_name, e_set_tup, e_eq_ss, e_ne_ss, e_eqa_none, e_eqb_none, e_nea_none, e_neb_none, e_eqa_bool, e_eqb_bool, e_nea_bool, e_neb_bool, e_eqa_int, e_eqb_int, e_nea_int, e_neb_int, e_eqa_list, e_eqb_list, e_nea_list, e_neb_list, e_eqa_tuple, e_eqb_tuple, e_nea_tuple, e_neb_tuple, e_eqa_dict, e_eqb_dict, e_nea_dict, e_neb_dict, e_lt, e_le, e_gt, e_ge, e_isin, e_notin, e_is, e_isnt, e_add_ii, e_add_ss, e_add_tt, e_add_ll, e_sub_ii, e_mul_ii, e_mul_ti, e_mul_li, e_fdiv_ii, e_mod_ii, e_pow_ii, e_len_t, e_len_l, e_int_i, e_int_b, e_max_ii, e_min_ii, e_max_l, e_min_l, e_max_t, e_min_t, e_sum_l, e_sum_t, e_all_l, e_any_l, e_tuple_l, e_tuple_t, e_list_l, e_list_t, e_repr_d, e_divmod_ii, e_sorted_l, e_aug_add, e_aug_sub, isLst, tgIn, frOk, wipeE, backE, c1, c2, hl1, hl2, hl3]
theorem pl_turns {hs : Hs} {n m : Nat} (L : LOk hs n m) (k : Nat) (hk : k < hs.length) : ∀ (c a : Nat) (fd : List Plc) (x4 : Option O), a + c ≤ 2 → fd.length + 10 * c ≤ 9000 →
    ∃ x4', forL (bodyF (setT (.name 4)) (evalSs G_places_of 0 p_places_of_7)) ((List.range' a c).map fun i : Nat => PyData.int (i : Int)) [some (.fz (lang hs n m)), some (.lst (fd.map plD)), some (.fz (.int (k : Nat))), some (.lst ((rowsAt n a).map tup)), x4, none, none] =
    some (.nx [some (.fz (lang hs n m)), some (.lst ((fd ++ ((List.range' a c).map fun i => (rowsAt n i).map (plRow k)).flatten).map plD)), some (.fz (.int (k : Nat))), some (.lst ((rowsAt n (a + c)).map tup)), x4', none, none])
  | 0, a, fd, x4, _, _ => ⟨x4, by simp [forL]⟩
  | c + 1, a, fd, x4, h, hf => by
    have hn := L.n4
    have h1 := L.n1
    have hl := rowsAt_len n a
    have h2 : n ^ a ≤ n ^ 1 := Nat.pow_le_pow_right h1 (by omega)
    rw [Nat.pow_one] at h2
    have ht := pl_turn L k a hk fd (rowsAt n a) (by omega) (by omega) (fun r hr => by have := (rowsAt_ok hr).1; omega) x4
    by_cases hc : c = 0
    · subst hc
      refine ⟨some (.fz (.int (a : Nat))), ?_⟩
      rw [List.range'_succ, List.map_cons]
      unfold forL
      rw [ht]
      simp only
      simp [forL, rowsAt]
    · obtain ⟨x4', e⟩ := pl_turns L k hk c (a + 1) (fd ++ (rowsAt n a).map (plRow k)) (some (.fz (.int (a : Nat)))) (by omega) (by
        rw [List.length_append, List.length_map]
        omega)
      refine ⟨x4', ?_⟩
      rw [List.range'_succ, List.map_cons]
      unfold forL
      rw [ht]
      simp only
      rw [show ((rowsAt n a).map fun r => (List.range n).map fun v : Nat => r ++ [(v : Int)]).flatten = rowsAt n (a + 1) from rfl]
      rw [e]
      rw [show a + (c + 1) = a + 1 + c by omega]
      simp
theorem pl_head {hs : Hs} {n m : Nat} (L : LOk hs n m) (k : Nat) (hk : k < hs.length) (fd : List Plc) (hf : fd.length ≤ 8000) (x2 x3 x4 : Option O) :
    ∃ x3' x4', bodyF (setT (.name 2)) (evalSs G_places_of 0 p_places_of_9) (.int (k : Nat)) [some (.fz (lang hs n m)), some (.lst (fd.map plD)), x2, x3, x4, none, none] =
    some (.nx [some (.fz (lang hs n m)), some (.lst ((fd ++ plK hs n k).map plD)), some (.fz (.int (k : Nat))), x3', x4', none, none]) := by
  have hr := (rw_ok L k).1
  obtain ⟨x4', e⟩ := pl_turns L k hk (rw' hs k).2 0 fd x4 (by omega) (by omega)
  rw [← List.range_eq_range', ← rangeD_zero] at e
  rw [show ((List.range (rw' hs k).2).map fun i => (rowsAt n i).map (plRow k)).flatten = plK hs n k from rfl] at e
  rw [show (rowsAt n 0).map tup = [PyData.tuple []] from rfl] at e
  have el := ev_long_of n m hk
  have q : rngOk ((rw' hs k).2 : Int) = true := rngOk_nat (by omega)
  refine ⟨some (.lst ((rowsAt n (0 + (rw' hs k).2)).map tup)), x4', ?_⟩
  generalize (rowsAt n (0 + (rw' hs k).2)).map tup = RR at e ⊢
  simp [bodyF, p_places_of_9, p_places_of_2, p_places_of_8, f_places_of__long_of, mv, setOs, lim, targets, flats, tup, startE, slot, flatP, O.flat, share, frz, endO, intsOf, boolsOf, setAll, P.still, callD, callI, e_ixt, e_ixl, e_isi_int_none, e_isi_int_bool, e_isi_int_int, e_isi_int_str, e_isi_int_list, e_isi_int_tuple, e_isi_int_dict, e_isi_bool_none, e_isi_bool_bool, e_isi_bool_int, e_isi_bool_str, e_isi_bool_list, e_isi_bool_tuple, e_isi_bool_dict, e_isi_str_none, e_isi_str_bool, e_isi_str_int, e_isi_str_str, e_isi_str_list, e_isi_str_tuple, e_isi_str_dict, e_isi_tuple_none, e_isi_tuple_bool, e_isi_tuple_int, e_isi_tuple_str, e_isi_tuple_list, e_isi_tuple_tuple, e_isi_tuple_dict, e_isi_list_none, e_isi_list_bool, e_isi_list_int, e_isi_list_str, e_isi_list_list, e_isi_list_tuple, e_isi_list_dict, e_isi_dict_none, e_isi_dict_bool, e_isi_dict_int, e_isi_dict_str, e_isi_dict_list, e_isi_dict_tuple, e_isi_dict_dict, e_isN_none, e_isN_bool, e_isN_int, e_isN_str, e_isN_list, e_isN_tuple, e_isN_dict, e_tr_none, e_tr_bool, e_tr_int, e_tr_tuple, e_tr_list, e_row_tuple, e_row_list, e_sl_tuple, e_sl_list, e_set_name, e_set_tup, e_eq_ss, e_ne_ss, e_eqa_none, e_eqb_none, e_nea_none, e_neb_none, e_eqa_bool, e_eqb_bool, e_nea_bool, e_neb_bool, e_eqa_int, e_eqb_int, e_nea_int, e_neb_int, e_eqa_list, e_eqb_list, e_nea_list, e_neb_list, e_eqa_tuple, e_eqb_tuple, e_nea_tuple, e_neb_tuple, e_eqa_dict, e_eqb_dict, e_nea_dict, e_neb_dict, e_lt, e_le, e_gt, e_ge, e_isin, e_notin, e_is, e_isnt, e_add_ii, e_add_ss, e_add_tt, e_add_ll, e_sub_ii, e_mul_ii, e_mul_ti, e_mul_li, e_fdiv_ii, e_mod_ii, e_pow_ii, e_len_t, e_len_l, e_int_i, e_int_b, e_max_ii, e_min_ii, e_max_l, e_min_l, e_max_t, e_min_t, e_sum_l, e_sum_t, e_all_l, e_any_l, e_tuple_l, e_tuple_t, e_list_l, e_list_t, e_repr_d, e_divmod_ii, e_sorted_l, e_aug_add, e_aug_sub, el, q, targets, e]
theorem pl_heads {hs : Hs} {n m : Nat} (L : LOk hs n m) : ∀ (c k : Nat) (fd : List Plc) (x2 x3 x4 : Option O), k + c ≤ hs.length → fd.length + 10 * c ≤ 8000 →
    ∃ x2' x3' x4', forL (bodyF (setT (.name 2)) (evalSs G_places_of 0 p_places_of_9)) ((List.range' k c).map fun i : Nat => PyData.int (i : Int)) [some (.fz (lang hs n m)), some (.lst (fd.map plD)), x2, x3, x4, none, none] =
    some (.nx [some (.fz (lang hs n m)), some (.lst ((fd ++ ((List.range' k c).map (plK hs n)).flatten).map plD)), x2', x3', x4', none, none])
  | 0, k, fd, x2, x3, x4, _, _ => ⟨x2, x3, x4, by simp [forL]⟩
  | c + 1, k, fd, x2, x3, x4, h, hf => by
    obtain ⟨y3, y4, ht⟩ := pl_head L k (by omega) fd (by omega) x2 x3 x4
    obtain ⟨x2', x3', x4', e⟩ := pl_heads L c (k + 1) (fd ++ plK hs n k) (some (.fz (.int (k : Nat)))) y3 y4 (by omega) (by
      rw [List.length_append]
      have := plK_len L k
      omega)
    refine ⟨x2', x3', x4', ?_⟩
    rw [List.range'_succ, List.map_cons]
    unfold forL
    rw [ht]
    simp only
    rw [e]
    simp
theorem ev_places_of {hs : Hs} {n m : Nat} (L : LOk hs n m) : M_places_of [lang hs n m] = some (.ok (.list ((plcs hs n).map plD))) := by
  obtain ⟨x2, x3, x4, e⟩ := pl_heads L hs.length 0 [(none, [])] none none none (by omega) (by have := L.h4; simp; omega)
  rw [← List.range_eq_range', ← rangeD_zero] at e
  rw [show [((none, []) : Plc)] ++ ((List.range hs.length).map (plK hs n)).flatten = plcs hs n from rfl] at e
  rw [show ([((none, []) : Plc)]).map plD = [PyData.tuple [.int (-1), .tuple []]] from rfl] at e
  have q : rngOk (hs.length : Int) = true := rngOk_nat (by have := L.h4; omega)
  generalize (plcs hs n).map plD = PL at e ⊢
  unfold M_places_of
  simp [runPure, runIo, runMk, b_places_of, p_places_of_1, p_places_of_2, p_places_of_4, p_places_of_6, p_places_of_8, p_places_of_10, p_places_of_11, f_places_of__long_of, mv, setOs, lim, targets, flats, tup, startE, slot, flatP, O.flat, share, frz, endO, intsOf, boolsOf, setAll, P.still, callD, callI, e_ixt, e_ixl, e_isi_int_none, e_isi_int_bool, e_isi_int_int, e_isi_int_str, e_isi_int_list, e_isi_int_tuple, e_isi_int_dict, e_isi_bool_none, e_isi_bool_bool, e_isi_bool_int, e_isi_bool_str, e_isi_bool_list, e_isi_bool_tuple, e_isi_bool_dict, e_isi_str_none, e_isi_str_bool, e_isi_str_int, e_isi_str_str, e_isi_str_list, e_isi_str_tuple, e_isi_str_dict, e_isi_tuple_none, e_isi_tuple_bool, e_isi_tuple_int, e_isi_tuple_str, e_isi_tuple_list, e_isi_tuple_tuple, e_isi_tuple_dict, e_isi_list_none, e_isi_list_bool, e_isi_list_int, e_isi_list_str, e_isi_list_list, e_isi_list_tuple, e_isi_list_dict, e_isi_dict_none, e_isi_dict_bool, e_isi_dict_int, e_isi_dict_str, e_isi_dict_list, e_isi_dict_tuple, e_isi_dict_dict, e_isN_none, e_isN_bool, e_isN_int, e_isN_str, e_isN_list, e_isN_tuple, e_isN_dict, e_tr_none, e_tr_bool, e_tr_int, e_tr_tuple, e_tr_list, e_row_tuple, e_row_list, e_sl_tuple, e_sl_list, e_set_name, e_set_tup, e_eq_ss, e_ne_ss, e_eqa_none, e_eqb_none, e_nea_none, e_neb_none, e_eqa_bool, e_eqb_bool, e_nea_bool, e_neb_bool, e_eqa_int, e_eqb_int, e_nea_int, e_neb_int, e_eqa_list, e_eqb_list, e_nea_list, e_neb_list, e_eqa_tuple, e_eqb_tuple, e_nea_tuple, e_neb_tuple, e_eqa_dict, e_eqb_dict, e_nea_dict, e_neb_dict, e_lt, e_le, e_gt, e_ge, e_isin, e_notin, e_is, e_isnt, e_add_ii, e_add_ss, e_add_tt, e_add_ll, e_sub_ii, e_mul_ii, e_mul_ti, e_mul_li, e_fdiv_ii, e_mod_ii, e_pow_ii, e_len_t, e_len_l, e_int_i, e_int_b, e_max_ii, e_min_ii, e_max_l, e_min_l, e_max_t, e_min_t, e_sum_l, e_sum_t, e_all_l, e_any_l, e_tuple_l, e_tuple_t, e_list_l, e_list_t, e_repr_d, e_divmod_ii, e_sorted_l, e_aug_add, e_aug_sub, q, targets, e]
theorem lots_turn {hs : Hs} {n m : Nat} (k : Nat) (hk : k ≤ 4) (x2 x4 x5 : Option O) :
    bodyF (setT (.name 2)) (evalSs G_standings_of 0 p_standings_of_3) (.int (k : Nat)) [some (.fz (lang hs n m)), some (.lst ((lots k).map tup)), x2, none, x4, x5] =
    some (.nx [some (.fz (lang hs n m)), some (.lst ((lots (k + 1)).map tup)), some (.fz (.int (k : Nat))), none, x4, x5]) := by
  have hl := lots_le hk
  have hok : ∀ r ∈ lots k, r.length ≤ 10 := fun r hr => by have := on_len (lots_ok hr); omega
  have c1 : compL (compTurn [3] (setT (.name 3)) (evalT G_standings_of .yes) (evalE G_standings_of p_standings_of_2)) ((lots k).map tup) [some (.fz (lang hs n m)), some (.fz (.list ((lots k).map tup))), some (.fz (.int (k : Nat))), none, x4, x5] =
      some (.ok ((lots k).map fun l => tup (l ++ [(k : Int)])) [some (.fz (lang hs n m)), some (.fz (.list ((lots k).map tup))), some (.fz (.int (k : Nat))), none, x4, x5]) := by
    refine compL_fun _ _ fun r hr => ?_
    have := hok r hr
    have h1 : r.length + 1 ≤ 16777216 := by omega
    simp [compTurn, p_standings_of_2, mv, setOs, lim, targets, flats, tup, startE, slot, flatP, O.flat, share, frz, endO, intsOf, boolsOf, setAll, P.still, callD, callI, e_ixt, e_ixl, e_isi_int_none, e_isi_int_bool, e_isi_int_int, e_isi_int_str, e_isi_int_list, e_isi_int_tuple, e_isi_int_dict, e_isi_bool_none, e_isi_bool_bool, e_isi_bool_int, e_isi_bool_str, e_isi_bool_list, e_isi_bool_tuple, e_isi_bool_dict, e_isi_str_none, e_isi_str_bool, e_isi_str_int, e_isi_str_str, e_isi_str_list, e_isi_str_tuple, e_isi_str_dict, e_isi_tuple_none, e_isi_tuple_bool, e_isi_tuple_int, e_isi_tuple_str, e_isi_tuple_list, e_isi_tuple_tuple, e_isi_tuple_dict, e_isi_list_none, e_isi_list_bool, e_isi_list_int, e_isi_list_str, e_isi_list_list, e_isi_list_tuple, e_isi_list_dict, e_isi_dict_none, e_isi_dict_bool, e_isi_dict_int, e_isi_dict_str, e_isi_dict_list, e_isi_dict_tuple, e_isi_dict_dict, e_isN_none, e_isN_bool, e_isN_int, e_isN_str, e_isN_list, e_isN_tuple, e_isN_dict, e_tr_none, e_tr_bool, e_tr_int, e_tr_tuple, e_tr_list, e_row_tuple, e_row_list, e_sl_tuple, e_sl_list, e_set_name, e_set_tup, e_eq_ss, e_ne_ss, e_eqa_none, e_eqb_none, e_nea_none, e_neb_none, e_eqa_bool, e_eqb_bool, e_nea_bool, e_neb_bool, e_eqa_int, e_eqb_int, e_nea_int, e_neb_int, e_eqa_list, e_eqb_list, e_nea_list, e_neb_list, e_eqa_tuple, e_eqb_tuple, e_nea_tuple, e_neb_tuple, e_eqa_dict, e_eqb_dict, e_nea_dict, e_neb_dict, e_lt, e_le, e_gt, e_ge, e_isin, e_notin, e_is, e_isnt, e_add_ii, e_add_ss, e_add_tt, e_add_ll, e_sub_ii, e_mul_ii, e_mul_ti, e_mul_li, e_fdiv_ii, e_mod_ii, e_pow_ii, e_len_t, e_len_l, e_int_i, e_int_b, e_max_ii, e_min_ii, e_max_l, e_min_l, e_max_t, e_min_t, e_sum_l, e_sum_t, e_all_l, e_any_l, e_tuple_l, e_tuple_t, e_list_l, e_list_t, e_repr_d, e_divmod_ii, e_sorted_l, e_aug_add, e_aug_sub, wipeO, frOk, wipeE, h1]
  have hm : (lots (k + 1)).map tup = (lots k).map tup ++ (lots k).map fun l => tup (l ++ [(k : Int)]) := by
    rw [lots, List.map_append, List.map_map]
    rfl
  rw [hm]
  have l1 : ((lots k).map tup).length ≤ 16777216 := by rw [List.length_map]; omega
  have l2 : ((lots k).map tup).length + ((lots k).map fun l => tup (l ++ [(k : Int)])).length ≤ 16777216 := by rw [List.length_map, List.length_map]; omega
  generalize (lots k).map tup = A at c1 l1 l2 ⊢
  generalize ((lots k).map fun l => tup (l ++ [(k : Int)])) = B at c1 l2 ⊢
  simp [bodyF, p_standings_of_3, mv, setOs, lim, targets, flats, tup, startE, slot, flatP, O.flat, share, frz, endO, intsOf, boolsOf, setAll, P.still, callD, callI, e_ixt, e_ixl, e_isi_int_none, e_isi_int_bool, e_isi_int_int, e_isi_int_str, e_isi_int_list, e_isi_int_tuple, e_isi_int_dict, e_isi_bool_none, e_isi_bool_bool, e_isi_bool_int, e_isi_bool_str, e_isi_bool_list, e_isi_bool_tuple, e_isi_bool_dict, e_isi_str_none, e_isi_str_bool, e_isi_str_int, e_isi_str_str, e_isi_str_list, e_isi_str_tuple, e_isi_str_dict, e_isi_tuple_none, e_isi_tuple_bool, e_isi_tuple_int, e_isi_tuple_str, e_isi_tuple_list, e_isi_tuple_tuple, e_isi_tuple_dict, e_isi_list_none, e_isi_list_bool, e_isi_list_int, e_isi_list_str, e_isi_list_list, e_isi_list_tuple, e_isi_list_dict, e_isi_dict_none, e_isi_dict_bool, e_isi_dict_int, e_isi_dict_str, e_isi_dict_list, e_isi_dict_tuple, e_isi_dict_dict, e_isN_none, e_isN_bool, e_isN_int, e_isN_str, e_isN_list, e_isN_tuple, e_isN_dict, e_tr_none, e_tr_bool, e_tr_int, e_tr_tuple, e_tr_list, e_row_tuple, e_row_list, e_sl_tuple, e_sl_list, e_set_name, e_set_tup, e_eq_ss, e_ne_ss, e_eqa_none, e_eqb_none, e_nea_none, e_neb_none, e_eqa_bool, e_eqb_bool, e_nea_bool, e_neb_bool, e_eqa_int, e_eqb_int, e_nea_int, e_neb_int, e_eqa_list, e_eqb_list, e_nea_list, e_neb_list, e_eqa_tuple, e_eqb_tuple, e_nea_tuple, e_neb_tuple, e_eqa_dict, e_eqb_dict, e_nea_dict, e_neb_dict, e_lt, e_le, e_gt, e_ge, e_isin, e_notin, e_is, e_isnt, e_add_ii, e_add_ss, e_add_tt, e_add_ll, e_sub_ii, e_mul_ii, e_mul_ti, e_mul_li, e_fdiv_ii, e_mod_ii, e_pow_ii, e_len_t, e_len_l, e_int_i, e_int_b, e_max_ii, e_min_ii, e_max_l, e_min_l, e_max_t, e_min_t, e_sum_l, e_sum_t, e_all_l, e_any_l, e_tuple_l, e_tuple_t, e_list_l, e_list_t, e_repr_d, e_divmod_ii, e_sorted_l, e_aug_add, e_aug_sub, tgIn, frOk, wipeE, backE, c1, l1, l2]
theorem lots_turns {hs : Hs} {n m : Nat} (x4 x5 : Option O) : ∀ (c k : Nat) (x2 : Option O), k + c ≤ 4 →
    ∃ x2', forL (bodyF (setT (.name 2)) (evalSs G_standings_of 0 p_standings_of_3)) ((List.range' k c).map fun i : Nat => PyData.int (i : Int)) [some (.fz (lang hs n m)), some (.lst ((lots k).map tup)), x2, none, x4, x5] =
    some (.nx [some (.fz (lang hs n m)), some (.lst ((lots (k + c)).map tup)), x2', none, x4, x5])
  | 0, k, x2, _ => ⟨x2, by simp [forL]⟩
  | c + 1, k, x2, h => by
    obtain ⟨x2', e⟩ := lots_turns (hs := hs) (n := n) (m := m) x4 x5 c (k + 1) (some (.fz (.int (k : Nat)))) (by omega)
    refine ⟨x2', ?_⟩
    rw [List.range'_succ, List.map_cons]
    unfold forL
    rw [lots_turn k (by omega)]
    simp only
    rw [e, show k + (c + 1) = k + 1 + c by omega]
theorem compL2_fun1 {turn : D → Env → Option (Out (List D))} {env0 env : Env} {α : Type} (g : α → D) (f : α → List D) {a : α} {l : List α} (h0 : turn (g a) env0 = some (.ok (f a) env)) (h : ∀ x ∈ l, turn (g x) env = some (.ok (f x) env)) :
    compL2 turn ((a :: l).map g) env0 = some (.ok (((a :: l).map f).flatten) env) := by
  rw [List.map_cons]
  unfold compL2
  rw [h0]
  simp only
  rw [compL2_fun g f h]
  rfl
theorem st_comp {hs : Hs} {n m : Nat} (L : LOk hs n m) (x2 : Option O) (v : O) (hv : v = .lst ((lots n).map tup) ∨ v = .fz (.list ((lots n).map tup))) (p : Plc) :
    compTurn2 [4, 5, 3] [3] (setT (.tup [4, 5])) (evalI G_standings_of (.of (.var 1))) (compTurn [3] (setT (.name 3)) (fun e => some (.ok true e)) (evalE G_standings_of p_standings_of_5)) (plD p) [some (.fz (lang hs n m)), some v, x2, none, none, none] =
    some (.ok ((lots n).map fun on => stD p on) [some (.fz (lang hs n m)), some (.fz (.list ((lots n).map tup))), x2, none, none, none]) := by
  have c1 : compL (compTurn [3] (setT (.name 3)) (fun e => some (.ok true e)) (evalE G_standings_of p_standings_of_5)) ((lots n).map tup) [some (.fz (lang hs n m)), some (.fz (.list ((lots n).map tup))), x2, none, some (.fz (hD p.1)), some (.fz (tup p.2))] =
      some (.ok ((lots n).map fun on => stD p on) [some (.fz (lang hs n m)), some (.fz (.list ((lots n).map tup))), x2, none, some (.fz (hD p.1)), some (.fz (tup p.2))]) := by
    refine compL_fun _ _ fun r hr => ?_
    simp [compTurn, p_standings_of_5, mv, setOs, lim, targets, flats, tup, startE, slot, flatP, O.flat, share, frz, endO, intsOf, boolsOf, setAll, P.still, callD, callI, e_ixt, e_ixl, e_isi_int_none, e_isi_int_bool, e_isi_int_int, e_isi_int_str, e_isi_int_list, e_isi_int_tuple, e_isi_int_dict, e_isi_bool_none, e_isi_bool_bool, e_isi_bool_int, e_isi_bool_str, e_isi_bool_list, e_isi_bool_tuple, e_isi_bool_dict, e_isi_str_none, e_isi_str_bool, e_isi_str_int, e_isi_str_str, e_isi_str_list, e_isi_str_tuple, e_isi_str_dict, e_isi_tuple_none, e_isi_tuple_bool, e_isi_tuple_int, e_isi_tuple_str, e_isi_tuple_list, e_isi_tuple_tuple, e_isi_tuple_dict, e_isi_list_none, e_isi_list_bool, e_isi_list_int, e_isi_list_str, e_isi_list_list, e_isi_list_tuple, e_isi_list_dict, e_isi_dict_none, e_isi_dict_bool, e_isi_dict_int, e_isi_dict_str, e_isi_dict_list, e_isi_dict_tuple, e_isi_dict_dict, e_isN_none, e_isN_bool, e_isN_int, e_isN_str, e_isN_list, e_isN_tuple, e_isN_dict, e_tr_none, e_tr_bool, e_tr_int, e_tr_tuple, e_tr_list, e_row_tuple, e_row_list, e_sl_tuple, e_sl_list, e_set_name, e_set_tup, e_eq_ss, e_ne_ss, e_eqa_none, e_eqb_none, e_nea_none, e_neb_none, e_eqa_bool, e_eqb_bool, e_nea_bool, e_neb_bool, e_eqa_int, e_eqb_int, e_nea_int, e_neb_int, e_eqa_list, e_eqb_list, e_nea_list, e_neb_list, e_eqa_tuple, e_eqb_tuple, e_nea_tuple, e_neb_tuple, e_eqa_dict, e_eqb_dict, e_nea_dict, e_neb_dict, e_lt, e_le, e_gt, e_ge, e_isin, e_notin, e_is, e_isnt, e_add_ii, e_add_ss, e_add_tt, e_add_ll, e_sub_ii, e_mul_ii, e_mul_ti, e_mul_li, e_fdiv_ii, e_mod_ii, e_pow_ii, e_len_t, e_len_l, e_int_i, e_int_b, e_max_ii, e_min_ii, e_max_l, e_min_l, e_max_t, e_min_t, e_sum_l, e_sum_t, e_all_l, e_any_l, e_tuple_l, e_tuple_t, e_list_l, e_list_t, e_repr_d, e_divmod_ii, e_sorted_l, e_aug_add, e_aug_sub, wipeO, frOk, wipeE, stD]
  generalize ((lots n).map fun on => stD p on) = B at c1 ⊢
  generalize (lots n).map tup = A at c1 hv ⊢
  simp only [tup] at c1
  rcases hv with rfl | rfl
  · simp [compTurn2, plD, mv, setOs, lim, targets, flats, tup, startE, slot, flatP, O.flat, share, frz, endO, intsOf, boolsOf, setAll, P.still, callD, callI, e_ixt, e_ixl, e_isi_int_none, e_isi_int_bool, e_isi_int_int, e_isi_int_str, e_isi_int_list, e_isi_int_tuple, e_isi_int_dict, e_isi_bool_none, e_isi_bool_bool, e_isi_bool_int, e_isi_bool_str, e_isi_bool_list, e_isi_bool_tuple, e_isi_bool_dict, e_isi_str_none, e_isi_str_bool, e_isi_str_int, e_isi_str_str, e_isi_str_list, e_isi_str_tuple, e_isi_str_dict, e_isi_tuple_none, e_isi_tuple_bool, e_isi_tuple_int, e_isi_tuple_str, e_isi_tuple_list, e_isi_tuple_tuple, e_isi_tuple_dict, e_isi_list_none, e_isi_list_bool, e_isi_list_int, e_isi_list_str, e_isi_list_list, e_isi_list_tuple, e_isi_list_dict, e_isi_dict_none, e_isi_dict_bool, e_isi_dict_int, e_isi_dict_str, e_isi_dict_list, e_isi_dict_tuple, e_isi_dict_dict, e_isN_none, e_isN_bool, e_isN_int, e_isN_str, e_isN_list, e_isN_tuple, e_isN_dict, e_tr_none, e_tr_bool, e_tr_int, e_tr_tuple, e_tr_list, e_row_tuple, e_row_list, e_sl_tuple, e_sl_list, e_set_name, e_set_tup, e_eq_ss, e_ne_ss, e_eqa_none, e_eqb_none, e_nea_none, e_neb_none, e_eqa_bool, e_eqb_bool, e_nea_bool, e_neb_bool, e_eqa_int, e_eqb_int, e_nea_int, e_neb_int, e_eqa_list, e_eqb_list, e_nea_list, e_neb_list, e_eqa_tuple, e_eqb_tuple, e_nea_tuple, e_neb_tuple, e_eqa_dict, e_eqb_dict, e_nea_dict, e_neb_dict, e_lt, e_le, e_gt, e_ge, e_isin, e_notin, e_is, e_isnt, e_add_ii, e_add_ss, e_add_tt, e_add_ll, e_sub_ii, e_mul_ii, e_mul_ti, e_mul_li, e_fdiv_ii, e_mod_ii, e_pow_ii, e_len_t, e_len_l, e_int_i, e_int_b, e_max_ii, e_min_ii, e_max_l, e_min_l, e_max_t, e_min_t, e_sum_l, e_sum_t, e_all_l, e_any_l, e_tuple_l, e_tuple_t, e_list_l, e_list_t, e_repr_d, e_divmod_ii, e_sorted_l, e_aug_add, e_aug_sub, frOk, wipeE, c1]
  · simp [compTurn2, plD, mv, setOs, lim, targets, flats, tup, startE, slot, flatP, O.flat, share, frz, endO, intsOf, boolsOf, setAll, P.still, callD, callI, e_ixt, e_ixl, e_isi_int_none, e_isi_int_bool, e_isi_int_int, e_isi_int_str, e_isi_int_list, e_isi_int_tuple, e_isi_int_dict, e_isi_bool_none, e_isi_bool_bool, e_isi_bool_int, e_isi_bool_str, e_isi_bool_list, e_isi_bool_tuple, e_isi_bool_dict, e_isi_str_none, e_isi_str_bool, e_isi_str_int, e_isi_str_str, e_isi_str_list, e_isi_str_tuple, e_isi_str_dict, e_isi_tuple_none, e_isi_tuple_bool, e_isi_tuple_int, e_isi_tuple_str, e_isi_tuple_list, e_isi_tuple_tuple, e_isi_tuple_dict, e_isi_list_none, e_isi_list_bool, e_isi_list_int, e_isi_list_str, e_isi_list_list, e_isi_list_tuple, e_isi_list_dict, e_isi_dict_none, e_isi_dict_bool, e_isi_dict_int, e_isi_dict_str, e_isi_dict_list, e_isi_dict_tuple, e_isi_dict_dict, e_isN_none, e_isN_bool, e_isN_int, e_isN_str, e_isN_list, e_isN_tuple, e_isN_dict, e_tr_none, e_tr_bool, e_tr_int, e_tr_tuple, e_tr_list, e_row_tuple, e_row_list, e_sl_tuple, e_sl_list, e_set_name, e_set_tup, e_eq_ss, e_ne_ss, e_eqa_none, e_eqb_none, e_nea_none, e_neb_none, e_eqa_bool, e_eqb_bool, e_nea_bool, e_neb_bool, e_eqa_int, e_eqb_int, e_nea_int, e_neb_int, e_eqa_list, e_eqb_list, e_nea_list, e_neb_list, e_eqa_tuple, e_eqb_tuple, e_nea_tuple, e_neb_tuple, e_eqa_dict, e_eqb_dict, e_nea_dict, e_neb_dict, e_lt, e_le, e_gt, e_ge, e_isin, e_notin, e_is, e_isnt, e_add_ii, e_add_ss, e_add_tt, e_add_ll, e_sub_ii, e_mul_ii, e_mul_ti, e_mul_li, e_fdiv_ii, e_mod_ii, e_pow_ii, e_len_t, e_len_l, e_int_i, e_int_b, e_max_ii, e_min_ii, e_max_l, e_min_l, e_max_t, e_min_t, e_sum_l, e_sum_t, e_all_l, e_any_l, e_tuple_l, e_tuple_t, e_list_l, e_list_t, e_repr_d, e_divmod_ii, e_sorted_l, e_aug_add, e_aug_sub, frOk, wipeE, c1]
theorem ev_standings_of {hs : Hs} {n m : Nat} (L : LOk hs n m) : M_standings_of [lang hs n m] = some (.ok (.list (stsS hs n))) := by
  have hn := L.n4
  obtain ⟨x2, e⟩ := lots_turns (hs := hs) (n := n) (m := m) none none n 0 none (by omega)
  rw [← List.range_eq_range', ← rangeD_zero] at e
  rw [show (lots 0).map tup = [PyData.tuple []] from rfl, Nat.zero_add] at e
  have q : rngOk (n : Int) = true := rngOk_nat (by omega)
  have h1 := ev_places_of L
  have c1 : compL2 (compTurn2 [4, 5, 3] [3] (setT (.tup [4, 5])) (evalI G_standings_of (.of (.var 1))) (compTurn [3] (setT (.name 3)) (fun e => some (.ok true e)) (evalE G_standings_of p_standings_of_5))) ((plcs hs n).map plD) [some (.fz (lang hs n m)), some (.lst ((lots n).map tup)), x2, none, none, none] =
      some (.ok (sts hs n) [some (.fz (lang hs n m)), some (.fz (.list ((lots n).map tup))), x2, none, none, none]) :=
    compL2_fun1 plD (fun p => (lots n).map fun on => stD p on) (st_comp L x2 _ (.inl rfl) _) fun p _ => st_comp L x2 _ (.inr rfl) p
  have hl : (sts hs n).length ≤ 16777216 := by have := sts_len L; omega
  have hso := sts_sortOk L
  unfold stsS
  generalize sts hs n = S at c1 hl hso ⊢
  generalize (plcs hs n).map plD = PL at c1 h1 ⊢
  generalize (lots n).map tup = T at c1 e ⊢
  unfold M_standings_of
  simp [runPure, runIo, runMk, b_standings_of, p_standings_of_1, p_standings_of_4, p_standings_of_6, f_standings_of__places_of, mv, setOs, lim, targets, flats, tup, startE, slot, flatP, O.flat, share, frz, endO, intsOf, boolsOf, setAll, P.still, callD, callI, e_ixt, e_ixl, e_isi_int_none, e_isi_int_bool, e_isi_int_int, e_isi_int_str, e_isi_int_list, e_isi_int_tuple, e_isi_int_dict, e_isi_bool_none, e_isi_bool_bool, e_isi_bool_int, e_isi_bool_str, e_isi_bool_list, e_isi_bool_tuple, e_isi_bool_dict, e_isi_str_none, e_isi_str_bool, e_isi_str_int, e_isi_str_str, e_isi_str_list, e_isi_str_tuple, e_isi_str_dict, e_isi_tuple_none, e_isi_tuple_bool, e_isi_tuple_int, e_isi_tuple_str, e_isi_tuple_list, e_isi_tuple_tuple, e_isi_tuple_dict, e_isi_list_none, e_isi_list_bool, e_isi_list_int, e_isi_list_str, e_isi_list_list, e_isi_list_tuple, e_isi_list_dict, e_isi_dict_none, e_isi_dict_bool, e_isi_dict_int, e_isi_dict_str, e_isi_dict_list, e_isi_dict_tuple, e_isi_dict_dict, e_isN_none, e_isN_bool, e_isN_int, e_isN_str, e_isN_list, e_isN_tuple, e_isN_dict, e_tr_none, e_tr_bool, e_tr_int, e_tr_tuple, e_tr_list, e_row_tuple, e_row_list, e_sl_tuple, e_sl_list, e_set_name, e_set_tup, e_eq_ss, e_ne_ss, e_eqa_none, e_eqb_none, e_nea_none, e_neb_none, e_eqa_bool, e_eqb_bool, e_nea_bool, e_neb_bool, e_eqa_int, e_eqb_int, e_nea_int, e_neb_int, e_eqa_list, e_eqb_list, e_nea_list, e_neb_list, e_eqa_tuple, e_eqb_tuple, e_nea_tuple, e_neb_tuple, e_eqa_dict, e_eqb_dict, e_nea_dict, e_neb_dict, e_lt, e_le, e_gt, e_ge, e_isin, e_notin, e_is, e_isnt, e_add_ii, e_add_ss, e_add_tt, e_add_ll, e_sub_ii, e_mul_ii, e_mul_ti, e_mul_li, e_fdiv_ii, e_mod_ii, e_pow_ii, e_len_t, e_len_l, e_int_i, e_int_b, e_max_ii, e_min_ii, e_max_l, e_min_l, e_max_t, e_min_t, e_sum_l, e_sum_t, e_all_l, e_any_l, e_tuple_l, e_tuple_t, e_list_l, e_list_t, e_repr_d, e_divmod_ii, e_sorted_l, e_aug_add, e_aug_sub, q, targets, e, h1, tgIn, frOk, wipeE, backE, c1, hl, hso]
end NW
end
section
set_option Elab.async false
set_option linter.all false
set_option maxRecDepth 100000
set_option maxHeartbeats 2000000
namespace NW
open PySem L2
/-! the law's reader -/
@[simp] theorem pl_ix0 (p : Plc) : ixD (plD p) (.int 0) = some (hD p.1) := by simp [plD, ixD]
@[simp] theorem pl_ix1 (p : Plc) : ixD (plD p) (.int 1) = some (tup p.2) := by simp [plD, ixD]
theorem ev_law_taken {hs : Hs} {n m : Nat} (L : LOk hs n m) {p : Plc} (hp : plOk hs n p) {s : Sg} (h : sgOk hs n m s) :
    M__law_taken [lang hs n m, plD p, s.d] = some (.ok (.tuple [plD (tk hs p s).1, ogD (tk hs p s).2])) := by
  unfold M__law_taken
  cases s with
  | moment k => simp [runPure, runIo, runMk, b__law_taken, p__law_taken_1, p__law_taken_2, p__law_taken_3, p__law_taken_4, p__law_taken_5, p__law_taken_6, p__law_taken_7, p__law_taken_8, mv, setOs, lim, targets, flats, tup, startE, slot, flatP, O.flat, share, frz, endO, intsOf, boolsOf, setAll, P.still, callD, callI, e_ixt, e_ixl, e_isi_int_none, e_isi_int_bool, e_isi_int_int, e_isi_int_str, e_isi_int_list, e_isi_int_tuple, e_isi_int_dict, e_isi_bool_none, e_isi_bool_bool, e_isi_bool_int, e_isi_bool_str, e_isi_bool_list, e_isi_bool_tuple, e_isi_bool_dict, e_isi_str_none, e_isi_str_bool, e_isi_str_int, e_isi_str_str, e_isi_str_list, e_isi_str_tuple, e_isi_str_dict, e_isi_tuple_none, e_isi_tuple_bool, e_isi_tuple_int, e_isi_tuple_str, e_isi_tuple_list, e_isi_tuple_tuple, e_isi_tuple_dict, e_isi_list_none, e_isi_list_bool, e_isi_list_int, e_isi_list_str, e_isi_list_list, e_isi_list_tuple, e_isi_list_dict, e_isi_dict_none, e_isi_dict_bool, e_isi_dict_int, e_isi_dict_str, e_isi_dict_list, e_isi_dict_tuple, e_isi_dict_dict, e_isN_none, e_isN_bool, e_isN_int, e_isN_str, e_isN_list, e_isN_tuple, e_isN_dict, e_tr_none, e_tr_bool, e_tr_int, e_tr_tuple, e_tr_list, e_row_tuple, e_row_list, e_sl_tuple, e_sl_list, e_set_name, e_set_tup, e_eq_ss, e_ne_ss, e_eqa_none, e_eqb_none, e_nea_none, e_neb_none, e_eqa_bool, e_eqb_bool, e_nea_bool, e_neb_bool, e_eqa_int, e_eqb_int, e_nea_int, e_neb_int, e_eqa_list, e_eqb_list, e_nea_list, e_neb_list, e_eqa_tuple, e_eqb_tuple, e_nea_tuple, e_neb_tuple, e_eqa_dict, e_eqb_dict, e_nea_dict, e_neb_dict, e_lt, e_le, e_gt, e_ge, e_isin, e_notin, e_is, e_isnt, e_add_ii, e_add_ss, e_add_tt, e_add_ll, e_sub_ii, e_mul_ii, e_mul_ti, e_mul_li, e_fdiv_ii, e_mod_ii, e_pow_ii, e_len_t, e_len_l, e_int_i, e_int_b, e_max_ii, e_min_ii, e_max_l, e_min_l, e_max_t, e_min_t, e_sum_l, e_sum_t, e_all_l, e_any_l, e_tuple_l, e_tuple_t, e_list_l, e_list_t, e_repr_d, e_divmod_ii, e_sorted_l, e_aug_add, e_aug_sub, tk, ogD, Sg.d]
  | head k =>
    simp only [sgOk] at h
    by_cases h0 : (rw' hs k).2 = 0
    · simp [runPure, runIo, runMk, b__law_taken, p__law_taken_1, p__law_taken_2, p__law_taken_3, p__law_taken_4, p__law_taken_5, p__law_taken_6, p__law_taken_7, p__law_taken_8, mv, setOs, lim, targets, flats, tup, startE, slot, flatP, O.flat, share, frz, endO, intsOf, boolsOf, setAll, P.still, callD, callI, e_ixt, e_ixl, e_isi_int_none, e_isi_int_bool, e_isi_int_int, e_isi_int_str, e_isi_int_list, e_isi_int_tuple, e_isi_int_dict, e_isi_bool_none, e_isi_bool_bool, e_isi_bool_int, e_isi_bool_str, e_isi_bool_list, e_isi_bool_tuple, e_isi_bool_dict, e_isi_str_none, e_isi_str_bool, e_isi_str_int, e_isi_str_str, e_isi_str_list, e_isi_str_tuple, e_isi_str_dict, e_isi_tuple_none, e_isi_tuple_bool, e_isi_tuple_int, e_isi_tuple_str, e_isi_tuple_list, e_isi_tuple_tuple, e_isi_tuple_dict, e_isi_list_none, e_isi_list_bool, e_isi_list_int, e_isi_list_str, e_isi_list_list, e_isi_list_tuple, e_isi_list_dict, e_isi_dict_none, e_isi_dict_bool, e_isi_dict_int, e_isi_dict_str, e_isi_dict_list, e_isi_dict_tuple, e_isi_dict_dict, e_isN_none, e_isN_bool, e_isN_int, e_isN_str, e_isN_list, e_isN_tuple, e_isN_dict, e_tr_none, e_tr_bool, e_tr_int, e_tr_tuple, e_tr_list, e_row_tuple, e_row_list, e_sl_tuple, e_sl_list, e_set_name, e_set_tup, e_eq_ss, e_ne_ss, e_eqa_none, e_eqb_none, e_nea_none, e_neb_none, e_eqa_bool, e_eqb_bool, e_nea_bool, e_neb_bool, e_eqa_int, e_eqb_int, e_nea_int, e_neb_int, e_eqa_list, e_eqb_list, e_nea_list, e_neb_list, e_eqa_tuple, e_eqb_tuple, e_nea_tuple, e_neb_tuple, e_eqa_dict, e_eqb_dict, e_nea_dict, e_neb_dict, e_lt, e_le, e_gt, e_ge, e_isin, e_notin, e_is, e_isnt, e_add_ii, e_add_ss, e_add_tt, e_add_ll, e_sub_ii, e_mul_ii, e_mul_ti, e_mul_li, e_fdiv_ii, e_mod_ii, e_pow_ii, e_len_t, e_len_l, e_int_i, e_int_b, e_max_ii, e_min_ii, e_max_l, e_min_l, e_max_t, e_min_t, e_sum_l, e_sum_t, e_all_l, e_any_l, e_tuple_l, e_tuple_t, e_list_l, e_list_t, e_repr_d, e_divmod_ii, e_sorted_l, e_aug_add, e_aug_sub, tk, ogD, gD, plD, at_hd h, h0, Sg.d]
    · simp [runPure, runIo, runMk, b__law_taken, p__law_taken_1, p__law_taken_2, p__law_taken_3, p__law_taken_4, p__law_taken_5, p__law_taken_6, p__law_taken_7, p__law_taken_8, mv, setOs, lim, targets, flats, tup, startE, slot, flatP, O.flat, share, frz, endO, intsOf, boolsOf, setAll, P.still, callD, callI, e_ixt, e_ixl, e_isi_int_none, e_isi_int_bool, e_isi_int_int, e_isi_int_str, e_isi_int_list, e_isi_int_tuple, e_isi_int_dict, e_isi_bool_none, e_isi_bool_bool, e_isi_bool_int, e_isi_bool_str, e_isi_bool_list, e_isi_bool_tuple, e_isi_bool_dict, e_isi_str_none, e_isi_str_bool, e_isi_str_int, e_isi_str_str, e_isi_str_list, e_isi_str_tuple, e_isi_str_dict, e_isi_tuple_none, e_isi_tuple_bool, e_isi_tuple_int, e_isi_tuple_str, e_isi_tuple_list, e_isi_tuple_tuple, e_isi_tuple_dict, e_isi_list_none, e_isi_list_bool, e_isi_list_int, e_isi_list_str, e_isi_list_list, e_isi_list_tuple, e_isi_list_dict, e_isi_dict_none, e_isi_dict_bool, e_isi_dict_int, e_isi_dict_str, e_isi_dict_list, e_isi_dict_tuple, e_isi_dict_dict, e_isN_none, e_isN_bool, e_isN_int, e_isN_str, e_isN_list, e_isN_tuple, e_isN_dict, e_tr_none, e_tr_bool, e_tr_int, e_tr_tuple, e_tr_list, e_row_tuple, e_row_list, e_sl_tuple, e_sl_list, e_set_name, e_set_tup, e_eq_ss, e_ne_ss, e_eqa_none, e_eqb_none, e_nea_none, e_neb_none, e_eqa_bool, e_eqb_bool, e_nea_bool, e_neb_bool, e_eqa_int, e_eqb_int, e_nea_int, e_neb_int, e_eqa_list, e_eqb_list, e_nea_list, e_neb_list, e_eqa_tuple, e_eqb_tuple, e_nea_tuple, e_neb_tuple, e_eqa_dict, e_eqb_dict, e_nea_dict, e_neb_dict, e_lt, e_le, e_gt, e_ge, e_isin, e_notin, e_is, e_isnt, e_add_ii, e_add_ss, e_add_tt, e_add_ll, e_sub_ii, e_mul_ii, e_mul_ti, e_mul_li, e_fdiv_ii, e_mod_ii, e_pow_ii, e_len_t, e_len_l, e_int_i, e_int_b, e_max_ii, e_min_ii, e_max_l, e_min_l, e_max_t, e_min_t, e_sum_l, e_sum_t, e_all_l, e_any_l, e_tuple_l, e_tuple_t, e_list_l, e_list_t, e_repr_d, e_divmod_ii, e_sorted_l, e_aug_add, e_aug_sub, tk, ogD, gD, plD, at_hd h, h0, Sg.d]
  | value v =>
    obtain ⟨o, got⟩ := p
    cases o with
    | none =>
      have : got = [] := hp
      subst this
      simp [runPure, runIo, runMk, b__law_taken, p__law_taken_1, p__law_taken_2, p__law_taken_3, p__law_taken_4, p__law_taken_5, p__law_taken_6, p__law_taken_7, p__law_taken_8, mv, setOs, lim, targets, flats, tup, startE, slot, flatP, O.flat, share, frz, endO, intsOf, boolsOf, setAll, P.still, callD, callI, e_ixt, e_ixl, e_isi_int_none, e_isi_int_bool, e_isi_int_int, e_isi_int_str, e_isi_int_list, e_isi_int_tuple, e_isi_int_dict, e_isi_bool_none, e_isi_bool_bool, e_isi_bool_int, e_isi_bool_str, e_isi_bool_list, e_isi_bool_tuple, e_isi_bool_dict, e_isi_str_none, e_isi_str_bool, e_isi_str_int, e_isi_str_str, e_isi_str_list, e_isi_str_tuple, e_isi_str_dict, e_isi_tuple_none, e_isi_tuple_bool, e_isi_tuple_int, e_isi_tuple_str, e_isi_tuple_list, e_isi_tuple_tuple, e_isi_tuple_dict, e_isi_list_none, e_isi_list_bool, e_isi_list_int, e_isi_list_str, e_isi_list_list, e_isi_list_tuple, e_isi_list_dict, e_isi_dict_none, e_isi_dict_bool, e_isi_dict_int, e_isi_dict_str, e_isi_dict_list, e_isi_dict_tuple, e_isi_dict_dict, e_isN_none, e_isN_bool, e_isN_int, e_isN_str, e_isN_list, e_isN_tuple, e_isN_dict, e_tr_none, e_tr_bool, e_tr_int, e_tr_tuple, e_tr_list, e_row_tuple, e_row_list, e_sl_tuple, e_sl_list, e_set_name, e_set_tup, e_eq_ss, e_ne_ss, e_eqa_none, e_eqb_none, e_nea_none, e_neb_none, e_eqa_bool, e_eqb_bool, e_nea_bool, e_neb_bool, e_eqa_int, e_eqb_int, e_nea_int, e_neb_int, e_eqa_list, e_eqb_list, e_nea_list, e_neb_list, e_eqa_tuple, e_eqb_tuple, e_nea_tuple, e_neb_tuple, e_eqa_dict, e_eqb_dict, e_nea_dict, e_neb_dict, e_lt, e_le, e_gt, e_ge, e_isin, e_notin, e_is, e_isnt, e_add_ii, e_add_ss, e_add_tt, e_add_ll, e_sub_ii, e_mul_ii, e_mul_ti, e_mul_li, e_fdiv_ii, e_mod_ii, e_pow_ii, e_len_t, e_len_l, e_int_i, e_int_b, e_max_ii, e_min_ii, e_max_l, e_min_l, e_max_t, e_min_t, e_sum_l, e_sum_t, e_all_l, e_any_l, e_tuple_l, e_tuple_t, e_list_l, e_list_t, e_repr_d, e_divmod_ii, e_sorted_l, e_aug_add, e_aug_sub, tk, ogD, gD, plD, Sg.d]
    | some k =>
      obtain ⟨h1, h2, h3⟩ := hp
      simp only at h1 h2 h3
      have hg : got.length + 1 ≤ 16777216 := by have := (rw_ok L k).1; omega
      have hk : ¬ ((k : Int) = -1) := by omega
      by_cases h4 : got.length + 1 < (rw' hs k).2
      · have h4' : ¬ (got.length : Int) + 1 = ((rw' hs k).2 : Int) := by omega
        simp [runPure, runIo, runMk, b__law_taken, p__law_taken_1, p__law_taken_2, p__law_taken_3, p__law_taken_4, p__law_taken_5, p__law_taken_6, p__law_taken_7, p__law_taken_8, mv, setOs, lim, targets, flats, tup, startE, slot, flatP, O.flat, share, frz, endO, intsOf, boolsOf, setAll, P.still, callD, callI, e_ixt, e_ixl, e_isi_int_none, e_isi_int_bool, e_isi_int_int, e_isi_int_str, e_isi_int_list, e_isi_int_tuple, e_isi_int_dict, e_isi_bool_none, e_isi_bool_bool, e_isi_bool_int, e_isi_bool_str, e_isi_bool_list, e_isi_bool_tuple, e_isi_bool_dict, e_isi_str_none, e_isi_str_bool, e_isi_str_int, e_isi_str_str, e_isi_str_list, e_isi_str_tuple, e_isi_str_dict, e_isi_tuple_none, e_isi_tuple_bool, e_isi_tuple_int, e_isi_tuple_str, e_isi_tuple_list, e_isi_tuple_tuple, e_isi_tuple_dict, e_isi_list_none, e_isi_list_bool, e_isi_list_int, e_isi_list_str, e_isi_list_list, e_isi_list_tuple, e_isi_list_dict, e_isi_dict_none, e_isi_dict_bool, e_isi_dict_int, e_isi_dict_str, e_isi_dict_list, e_isi_dict_tuple, e_isi_dict_dict, e_isN_none, e_isN_bool, e_isN_int, e_isN_str, e_isN_list, e_isN_tuple, e_isN_dict, e_tr_none, e_tr_bool, e_tr_int, e_tr_tuple, e_tr_list, e_row_tuple, e_row_list, e_sl_tuple, e_sl_list, e_set_name, e_set_tup, e_eq_ss, e_ne_ss, e_eqa_none, e_eqb_none, e_nea_none, e_neb_none, e_eqa_bool, e_eqb_bool, e_nea_bool, e_neb_bool, e_eqa_int, e_eqb_int, e_nea_int, e_neb_int, e_eqa_list, e_eqb_list, e_nea_list, e_neb_list, e_eqa_tuple, e_eqb_tuple, e_nea_tuple, e_neb_tuple, e_eqa_dict, e_eqb_dict, e_nea_dict, e_neb_dict, e_lt, e_le, e_gt, e_ge, e_isin, e_notin, e_is, e_isnt, e_add_ii, e_add_ss, e_add_tt, e_add_ll, e_sub_ii, e_mul_ii, e_mul_ti, e_mul_li, e_fdiv_ii, e_mod_ii, e_pow_ii, e_len_t, e_len_l, e_int_i, e_int_b, e_max_ii, e_min_ii, e_max_l, e_min_l, e_max_t, e_min_t, e_sum_l, e_sum_t, e_all_l, e_any_l, e_tuple_l, e_tuple_t, e_list_l, e_list_t, e_repr_d, e_divmod_ii, e_sorted_l, e_aug_add, e_aug_sub, tk, ogD, gD, plD, Sg.d, at_hd h1, h4, h4', hg, hk]
      · have h4' : (got.length : Int) + 1 = ((rw' hs k).2 : Int) := by omega
        simp [runPure, runIo, runMk, b__law_taken, p__law_taken_1, p__law_taken_2, p__law_taken_3, p__law_taken_4, p__law_taken_5, p__law_taken_6, p__law_taken_7, p__law_taken_8, mv, setOs, lim, targets, flats, tup, startE, slot, flatP, O.flat, share, frz, endO, intsOf, boolsOf, setAll, P.still, callD, callI, e_ixt, e_ixl, e_isi_int_none, e_isi_int_bool, e_isi_int_int, e_isi_int_str, e_isi_int_list, e_isi_int_tuple, e_isi_int_dict, e_isi_bool_none, e_isi_bool_bool, e_isi_bool_int, e_isi_bool_str, e_isi_bool_list, e_isi_bool_tuple, e_isi_bool_dict, e_isi_str_none, e_isi_str_bool, e_isi_str_int, e_isi_str_str, e_isi_str_list, e_isi_str_tuple, e_isi_str_dict, e_isi_tuple_none, e_isi_tuple_bool, e_isi_tuple_int, e_isi_tuple_str, e_isi_tuple_list, e_isi_tuple_tuple, e_isi_tuple_dict, e_isi_list_none, e_isi_list_bool, e_isi_list_int, e_isi_list_str, e_isi_list_list, e_isi_list_tuple, e_isi_list_dict, e_isi_dict_none, e_isi_dict_bool, e_isi_dict_int, e_isi_dict_str, e_isi_dict_list, e_isi_dict_tuple, e_isi_dict_dict, e_isN_none, e_isN_bool, e_isN_int, e_isN_str, e_isN_list, e_isN_tuple, e_isN_dict, e_tr_none, e_tr_bool, e_tr_int, e_tr_tuple, e_tr_list, e_row_tuple, e_row_list, e_sl_tuple, e_sl_list, e_set_name, e_set_tup, e_eq_ss, e_ne_ss, e_eqa_none, e_eqb_none, e_nea_none, e_neb_none, e_eqa_bool, e_eqb_bool, e_nea_bool, e_neb_bool, e_eqa_int, e_eqb_int, e_nea_int, e_neb_int, e_eqa_list, e_eqb_list, e_nea_list, e_neb_list, e_eqa_tuple, e_eqb_tuple, e_nea_tuple, e_neb_tuple, e_eqa_dict, e_eqb_dict, e_nea_dict, e_neb_dict, e_lt, e_le, e_gt, e_ge, e_isin, e_notin, e_is, e_isnt, e_add_ii, e_add_ss, e_add_tt, e_add_ll, e_sub_ii, e_mul_ii, e_mul_ti, e_mul_li, e_fdiv_ii, e_mod_ii, e_pow_ii, e_len_t, e_len_l, e_int_i, e_int_b, e_max_ii, e_min_ii, e_max_l, e_min_l, e_max_t, e_min_t, e_sum_l, e_sum_t, e_all_l, e_any_l, e_tuple_l, e_tuple_t, e_list_l, e_list_t, e_repr_d, e_divmod_ii, e_sorted_l, e_aug_add, e_aug_sub, tk, ogD, gD, plD, Sg.d, at_hd h1, h4, h4', hg, hk]
theorem ev_law_lit {hs : Hs} {n m : Nat} (L : LOk hs n m) {on : List Int} (ho : onOk n on) {o : Option (Nat × List Int)} (hm : ∀ x, o = some x → msOk hs n x) :
    M__law_lit [lang hs n m, tup on, ogD o] = some (.ok (tup (nb hs on o))) := by
  unfold M__law_lit
  cases o with
  | none => simp [runPure, runIo, runMk, b__law_lit, p__law_lit_1, p__law_lit_2, p__law_lit_3, p__law_lit_4, p__law_lit_7, mv, setOs, lim, targets, flats, tup, startE, slot, flatP, O.flat, share, frz, endO, intsOf, boolsOf, setAll, P.still, callD, callI, e_ixt, e_ixl, e_isi_int_none, e_isi_int_bool, e_isi_int_int, e_isi_int_str, e_isi_int_list, e_isi_int_tuple, e_isi_int_dict, e_isi_bool_none, e_isi_bool_bool, e_isi_bool_int, e_isi_bool_str, e_isi_bool_list, e_isi_bool_tuple, e_isi_bool_dict, e_isi_str_none, e_isi_str_bool, e_isi_str_int, e_isi_str_str, e_isi_str_list, e_isi_str_tuple, e_isi_str_dict, e_isi_tuple_none, e_isi_tuple_bool, e_isi_tuple_int, e_isi_tuple_str, e_isi_tuple_list, e_isi_tuple_tuple, e_isi_tuple_dict, e_isi_list_none, e_isi_list_bool, e_isi_list_int, e_isi_list_str, e_isi_list_list, e_isi_list_tuple, e_isi_list_dict, e_isi_dict_none, e_isi_dict_bool, e_isi_dict_int, e_isi_dict_str, e_isi_dict_list, e_isi_dict_tuple, e_isi_dict_dict, e_isN_none, e_isN_bool, e_isN_int, e_isN_str, e_isN_list, e_isN_tuple, e_isN_dict, e_tr_none, e_tr_bool, e_tr_int, e_tr_tuple, e_tr_list, e_row_tuple, e_row_list, e_sl_tuple, e_sl_list, e_set_name, e_set_tup, e_eq_ss, e_ne_ss, e_eqa_none, e_eqb_none, e_nea_none, e_neb_none, e_eqa_bool, e_eqb_bool, e_nea_bool, e_neb_bool, e_eqa_int, e_eqb_int, e_nea_int, e_neb_int, e_eqa_list, e_eqb_list, e_nea_list, e_neb_list, e_eqa_tuple, e_eqb_tuple, e_nea_tuple, e_neb_tuple, e_eqa_dict, e_eqb_dict, e_nea_dict, e_neb_dict, e_lt, e_le, e_gt, e_ge, e_isin, e_notin, e_is, e_isnt, e_add_ii, e_add_ss, e_add_tt, e_add_ll, e_sub_ii, e_mul_ii, e_mul_ti, e_mul_li, e_fdiv_ii, e_mod_ii, e_pow_ii, e_len_t, e_len_l, e_int_i, e_int_b, e_max_ii, e_min_ii, e_max_l, e_min_l, e_max_t, e_min_t, e_sum_l, e_sum_t, e_all_l, e_any_l, e_tuple_l, e_tuple_t, e_list_l, e_list_t, e_repr_d, e_divmod_ii, e_sorted_l, e_aug_add, e_aug_sub, nb, ogD]
  | some x =>
    obtain ⟨h1, h2, h3⟩ := hm x rfl
    obtain ⟨k, vs⟩ := x
    simp only at h1 h2 h3
    have hr := rw_ok L k
    have hol := on_len ho
    have hn := L.n4
    have l1 : on.length + 1 ≤ 16777216 := by omega
    have l2 : on.length + 1 ≤ 60 := by omega
    have l3 : on.length ≤ 16777216 := by omega
    cases e : (rw' hs k).1 with
    | quiet => simp [runPure, runIo, runMk, b__law_lit, p__law_lit_1, p__law_lit_2, p__law_lit_3, p__law_lit_4, p__law_lit_7, mv, setOs, lim, targets, flats, tup, startE, slot, flatP, O.flat, share, frz, endO, intsOf, boolsOf, setAll, P.still, callD, callI, e_ixt, e_ixl, e_isi_int_none, e_isi_int_bool, e_isi_int_int, e_isi_int_str, e_isi_int_list, e_isi_int_tuple, e_isi_int_dict, e_isi_bool_none, e_isi_bool_bool, e_isi_bool_int, e_isi_bool_str, e_isi_bool_list, e_isi_bool_tuple, e_isi_bool_dict, e_isi_str_none, e_isi_str_bool, e_isi_str_int, e_isi_str_str, e_isi_str_list, e_isi_str_tuple, e_isi_str_dict, e_isi_tuple_none, e_isi_tuple_bool, e_isi_tuple_int, e_isi_tuple_str, e_isi_tuple_list, e_isi_tuple_tuple, e_isi_tuple_dict, e_isi_list_none, e_isi_list_bool, e_isi_list_int, e_isi_list_str, e_isi_list_list, e_isi_list_tuple, e_isi_list_dict, e_isi_dict_none, e_isi_dict_bool, e_isi_dict_int, e_isi_dict_str, e_isi_dict_list, e_isi_dict_tuple, e_isi_dict_dict, e_isN_none, e_isN_bool, e_isN_int, e_isN_str, e_isN_list, e_isN_tuple, e_isN_dict, e_tr_none, e_tr_bool, e_tr_int, e_tr_tuple, e_tr_list, e_row_tuple, e_row_list, e_sl_tuple, e_sl_list, e_set_name, e_set_tup, e_eq_ss, e_ne_ss, e_eqa_none, e_eqb_none, e_nea_none, e_neb_none, e_eqa_bool, e_eqb_bool, e_nea_bool, e_neb_bool, e_eqa_int, e_eqb_int, e_nea_int, e_neb_int, e_eqa_list, e_eqb_list, e_nea_list, e_neb_list, e_eqa_tuple, e_eqb_tuple, e_nea_tuple, e_neb_tuple, e_eqa_dict, e_eqb_dict, e_nea_dict, e_neb_dict, e_lt, e_le, e_gt, e_ge, e_isin, e_notin, e_is, e_isnt, e_add_ii, e_add_ss, e_add_tt, e_add_ll, e_sub_ii, e_mul_ii, e_mul_ti, e_mul_li, e_fdiv_ii, e_mod_ii, e_pow_ii, e_len_t, e_len_l, e_int_i, e_int_b, e_max_ii, e_min_ii, e_max_l, e_min_l, e_max_t, e_min_t, e_sum_l, e_sum_t, e_all_l, e_any_l, e_tuple_l, e_tuple_t, e_list_l, e_list_t, e_repr_d, e_divmod_ii, e_sorted_l, e_aug_add, e_aug_sub, nb, ogD, gD, at_hd h1, e, Rl.s]
    | other => simp [runPure, runIo, runMk, b__law_lit, p__law_lit_1, p__law_lit_2, p__law_lit_3, p__law_lit_4, p__law_lit_7, mv, setOs, lim, targets, flats, tup, startE, slot, flatP, O.flat, share, frz, endO, intsOf, boolsOf, setAll, P.still, callD, callI, e_ixt, e_ixl, e_isi_int_none, e_isi_int_bool, e_isi_int_int, e_isi_int_str, e_isi_int_list, e_isi_int_tuple, e_isi_int_dict, e_isi_bool_none, e_isi_bool_bool, e_isi_bool_int, e_isi_bool_str, e_isi_bool_list, e_isi_bool_tuple, e_isi_bool_dict, e_isi_str_none, e_isi_str_bool, e_isi_str_int, e_isi_str_str, e_isi_str_list, e_isi_str_tuple, e_isi_str_dict, e_isi_tuple_none, e_isi_tuple_bool, e_isi_tuple_int, e_isi_tuple_str, e_isi_tuple_list, e_isi_tuple_tuple, e_isi_tuple_dict, e_isi_list_none, e_isi_list_bool, e_isi_list_int, e_isi_list_str, e_isi_list_list, e_isi_list_tuple, e_isi_list_dict, e_isi_dict_none, e_isi_dict_bool, e_isi_dict_int, e_isi_dict_str, e_isi_dict_list, e_isi_dict_tuple, e_isi_dict_dict, e_isN_none, e_isN_bool, e_isN_int, e_isN_str, e_isN_list, e_isN_tuple, e_isN_dict, e_tr_none, e_tr_bool, e_tr_int, e_tr_tuple, e_tr_list, e_row_tuple, e_row_list, e_sl_tuple, e_sl_list, e_set_name, e_set_tup, e_eq_ss, e_ne_ss, e_eqa_none, e_eqb_none, e_nea_none, e_neb_none, e_eqa_bool, e_eqb_bool, e_nea_bool, e_neb_bool, e_eqa_int, e_eqb_int, e_nea_int, e_neb_int, e_eqa_list, e_eqb_list, e_nea_list, e_neb_list, e_eqa_tuple, e_eqb_tuple, e_nea_tuple, e_neb_tuple, e_eqa_dict, e_eqb_dict, e_nea_dict, e_neb_dict, e_lt, e_le, e_gt, e_ge, e_isin, e_notin, e_is, e_isnt, e_add_ii, e_add_ss, e_add_tt, e_add_ll, e_sub_ii, e_mul_ii, e_mul_ti, e_mul_li, e_fdiv_ii, e_mod_ii, e_pow_ii, e_len_t, e_len_l, e_int_i, e_int_b, e_max_ii, e_min_ii, e_max_l, e_min_l, e_max_t, e_min_t, e_sum_l, e_sum_t, e_all_l, e_any_l, e_tuple_l, e_tuple_t, e_list_l, e_list_t, e_repr_d, e_divmod_ii, e_sorted_l, e_aug_add, e_aug_sub, nb, ogD, gD, at_hd h1, e, Rl.s]
    | on =>
      have hl : 1 ≤ vs.length := by have := hr.2 (.inl e); omega
      cases vs with
      | nil => simp at hl
      | cons v vs =>
        have hi : intsOf (on.map PyData.int ++ [.int v]) = some (on ++ [v]) := by
          have := intsOf_map (on ++ [v])
          simpa using this
        simp [runPure, runIo, runMk, b__law_lit, p__law_lit_1, p__law_lit_2, p__law_lit_3, p__law_lit_4, p__law_lit_7, mv, setOs, lim, targets, flats, tup, startE, slot, flatP, O.flat, share, frz, endO, intsOf, boolsOf, setAll, P.still, callD, callI, e_ixt, e_ixl, e_isi_int_none, e_isi_int_bool, e_isi_int_int, e_isi_int_str, e_isi_int_list, e_isi_int_tuple, e_isi_int_dict, e_isi_bool_none, e_isi_bool_bool, e_isi_bool_int, e_isi_bool_str, e_isi_bool_list, e_isi_bool_tuple, e_isi_bool_dict, e_isi_str_none, e_isi_str_bool, e_isi_str_int, e_isi_str_str, e_isi_str_list, e_isi_str_tuple, e_isi_str_dict, e_isi_tuple_none, e_isi_tuple_bool, e_isi_tuple_int, e_isi_tuple_str, e_isi_tuple_list, e_isi_tuple_tuple, e_isi_tuple_dict, e_isi_list_none, e_isi_list_bool, e_isi_list_int, e_isi_list_str, e_isi_list_list, e_isi_list_tuple, e_isi_list_dict, e_isi_dict_none, e_isi_dict_bool, e_isi_dict_int, e_isi_dict_str, e_isi_dict_list, e_isi_dict_tuple, e_isi_dict_dict, e_isN_none, e_isN_bool, e_isN_int, e_isN_str, e_isN_list, e_isN_tuple, e_isN_dict, e_tr_none, e_tr_bool, e_tr_int, e_tr_tuple, e_tr_list, e_row_tuple, e_row_list, e_sl_tuple, e_sl_list, e_set_name, e_set_tup, e_eq_ss, e_ne_ss, e_eqa_none, e_eqb_none, e_nea_none, e_neb_none, e_eqa_bool, e_eqb_bool, e_nea_bool, e_neb_bool, e_eqa_int, e_eqb_int, e_nea_int, e_neb_int, e_eqa_list, e_eqb_list, e_nea_list, e_neb_list, e_eqa_tuple, e_eqb_tuple, e_nea_tuple, e_neb_tuple, e_eqa_dict, e_eqb_dict, e_nea_dict, e_neb_dict, e_lt, e_le, e_gt, e_ge, e_isin, e_notin, e_is, e_isnt, e_add_ii, e_add_ss, e_add_tt, e_add_ll, e_sub_ii, e_mul_ii, e_mul_ti, e_mul_li, e_fdiv_ii, e_mod_ii, e_pow_ii, e_len_t, e_len_l, e_int_i, e_int_b, e_max_ii, e_min_ii, e_max_l, e_min_l, e_max_t, e_min_t, e_sum_l, e_sum_t, e_all_l, e_any_l, e_tuple_l, e_tuple_t, e_list_l, e_list_t, e_repr_d, e_divmod_ii, e_sorted_l, e_aug_add, e_aug_sub, nb, ogD, gD, at_hd h1, e, Rl.s, hi, l1, l2]
    | off =>
      have hl : 1 ≤ vs.length := by have := hr.2 (.inr e); omega
      cases vs with
      | nil => simp at hl
      | cons v vs =>
        have hc (x1 x2 x3 x4 : Option O) : compL (compTurn [5] (setT (.name 5)) (evalT G__law_lit p__law_lit_5) (evalE G__law_lit p__law_lit_6)) (on.map PyData.int) [x1, x2, x3, x4, some (.fz (.tuple (PyData.int v :: vs.map PyData.int))), none] =
            some (.ok ((wo v on).map PyData.int) [x1, x2, x3, x4, some (.fz (.tuple (PyData.int v :: vs.map PyData.int))), none]) := by
          have hf : ((on.map PyData.int).filter (notI v)) = (wo v on).map PyData.int := by
            rw [List.filter_map]; rfl
          rw [← hf]
          refine compL_filter _ fun d hd => ?_
          obtain ⟨x, _, rfl⟩ := List.mem_map.mp hd
          by_cases hx : x = v
          · simp [compTurn, p__law_lit_5, p__law_lit_6, mv, setOs, lim, targets, flats, tup, startE, slot, flatP, O.flat, share, frz, endO, intsOf, boolsOf, setAll, P.still, callD, callI, e_ixt, e_ixl, e_isi_int_none, e_isi_int_bool, e_isi_int_int, e_isi_int_str, e_isi_int_list, e_isi_int_tuple, e_isi_int_dict, e_isi_bool_none, e_isi_bool_bool, e_isi_bool_int, e_isi_bool_str, e_isi_bool_list, e_isi_bool_tuple, e_isi_bool_dict, e_isi_str_none, e_isi_str_bool, e_isi_str_int, e_isi_str_str, e_isi_str_list, e_isi_str_tuple, e_isi_str_dict, e_isi_tuple_none, e_isi_tuple_bool, e_isi_tuple_int, e_isi_tuple_str, e_isi_tuple_list, e_isi_tuple_tuple, e_isi_tuple_dict, e_isi_list_none, e_isi_list_bool, e_isi_list_int, e_isi_list_str, e_isi_list_list, e_isi_list_tuple, e_isi_list_dict, e_isi_dict_none, e_isi_dict_bool, e_isi_dict_int, e_isi_dict_str, e_isi_dict_list, e_isi_dict_tuple, e_isi_dict_dict, e_isN_none, e_isN_bool, e_isN_int, e_isN_str, e_isN_list, e_isN_tuple, e_isN_dict, e_tr_none, e_tr_bool, e_tr_int, e_tr_tuple, e_tr_list, e_row_tuple, e_row_list, e_sl_tuple, e_sl_list, e_set_name, e_set_tup, e_eq_ss, e_ne_ss, e_eqa_none, e_eqb_none, e_nea_none, e_neb_none, e_eqa_bool, e_eqb_bool, e_nea_bool, e_neb_bool, e_eqa_int, e_eqb_int, e_nea_int, e_neb_int, e_eqa_list, e_eqb_list, e_nea_list, e_neb_list, e_eqa_tuple, e_eqb_tuple, e_nea_tuple, e_neb_tuple, e_eqa_dict, e_eqb_dict, e_nea_dict, e_neb_dict, e_lt, e_le, e_gt, e_ge, e_isin, e_notin, e_is, e_isnt, e_add_ii, e_add_ss, e_add_tt, e_add_ll, e_sub_ii, e_mul_ii, e_mul_ti, e_mul_li, e_fdiv_ii, e_mod_ii, e_pow_ii, e_len_t, e_len_l, e_int_i, e_int_b, e_max_ii, e_min_ii, e_max_l, e_min_l, e_max_t, e_min_t, e_sum_l, e_sum_t, e_all_l, e_any_l, e_tuple_l, e_tuple_t, e_list_l, e_list_t, e_repr_d, e_divmod_ii, e_sorted_l, e_aug_add, e_aug_sub, wipeO, frOk, wipeE, notI, hx]
          · simp [compTurn, p__law_lit_5, p__law_lit_6, mv, setOs, lim, targets, flats, tup, startE, slot, flatP, O.flat, share, frz, endO, intsOf, boolsOf, setAll, P.still, callD, callI, e_ixt, e_ixl, e_isi_int_none, e_isi_int_bool, e_isi_int_int, e_isi_int_str, e_isi_int_list, e_isi_int_tuple, e_isi_int_dict, e_isi_bool_none, e_isi_bool_bool, e_isi_bool_int, e_isi_bool_str, e_isi_bool_list, e_isi_bool_tuple, e_isi_bool_dict, e_isi_str_none, e_isi_str_bool, e_isi_str_int, e_isi_str_str, e_isi_str_list, e_isi_str_tuple, e_isi_str_dict, e_isi_tuple_none, e_isi_tuple_bool, e_isi_tuple_int, e_isi_tuple_str, e_isi_tuple_list, e_isi_tuple_tuple, e_isi_tuple_dict, e_isi_list_none, e_isi_list_bool, e_isi_list_int, e_isi_list_str, e_isi_list_list, e_isi_list_tuple, e_isi_list_dict, e_isi_dict_none, e_isi_dict_bool, e_isi_dict_int, e_isi_dict_str, e_isi_dict_list, e_isi_dict_tuple, e_isi_dict_dict, e_isN_none, e_isN_bool, e_isN_int, e_isN_str, e_isN_list, e_isN_tuple, e_isN_dict, e_tr_none, e_tr_bool, e_tr_int, e_tr_tuple, e_tr_list, e_row_tuple, e_row_list, e_sl_tuple, e_sl_list, e_set_name, e_set_tup, e_eq_ss, e_ne_ss, e_eqa_none, e_eqb_none, e_nea_none, e_neb_none, e_eqa_bool, e_eqb_bool, e_nea_bool, e_neb_bool, e_eqa_int, e_eqb_int, e_nea_int, e_neb_int, e_eqa_list, e_eqb_list, e_nea_list, e_neb_list, e_eqa_tuple, e_eqb_tuple, e_nea_tuple, e_neb_tuple, e_eqa_dict, e_eqb_dict, e_nea_dict, e_neb_dict, e_lt, e_le, e_gt, e_ge, e_isin, e_notin, e_is, e_isnt, e_add_ii, e_add_ss, e_add_tt, e_add_ll, e_sub_ii, e_mul_ii, e_mul_ti, e_mul_li, e_fdiv_ii, e_mod_ii, e_pow_ii, e_len_t, e_len_l, e_int_i, e_int_b, e_max_ii, e_min_ii, e_max_l, e_min_l, e_max_t, e_min_t, e_sum_l, e_sum_t, e_all_l, e_any_l, e_tuple_l, e_tuple_t, e_list_l, e_list_t, e_repr_d, e_divmod_ii, e_sorted_l, e_aug_add, e_aug_sub, wipeO, frOk, wipeE, notI, hx]
        rw [show nb hs on (some (k, v :: vs)) = wo v on by unfold nb; simp only [e, List.headD_cons]]
        generalize wo v on = gs at hc ⊢
        simp [runPure, runIo, runMk, b__law_lit, p__law_lit_1, p__law_lit_2, p__law_lit_3, p__law_lit_4, p__law_lit_7, mv, setOs, lim, targets, flats, tup, startE, slot, flatP, O.flat, share, frz, endO, intsOf, boolsOf, setAll, P.still, callD, callI, e_ixt, e_ixl, e_isi_int_none, e_isi_int_bool, e_isi_int_int, e_isi_int_str, e_isi_int_list, e_isi_int_tuple, e_isi_int_dict, e_isi_bool_none, e_isi_bool_bool, e_isi_bool_int, e_isi_bool_str, e_isi_bool_list, e_isi_bool_tuple, e_isi_bool_dict, e_isi_str_none, e_isi_str_bool, e_isi_str_int, e_isi_str_str, e_isi_str_list, e_isi_str_tuple, e_isi_str_dict, e_isi_tuple_none, e_isi_tuple_bool, e_isi_tuple_int, e_isi_tuple_str, e_isi_tuple_list, e_isi_tuple_tuple, e_isi_tuple_dict, e_isi_list_none, e_isi_list_bool, e_isi_list_int, e_isi_list_str, e_isi_list_list, e_isi_list_tuple, e_isi_list_dict, e_isi_dict_none, e_isi_dict_bool, e_isi_dict_int, e_isi_dict_str, e_isi_dict_list, e_isi_dict_tuple, e_isi_dict_dict, e_isN_none, e_isN_bool, e_isN_int, e_isN_str, e_isN_list, e_isN_tuple, e_isN_dict, e_tr_none, e_tr_bool, e_tr_int, e_tr_tuple, e_tr_list, e_row_tuple, e_row_list, e_sl_tuple, e_sl_list, e_set_name, e_set_tup, e_eq_ss, e_ne_ss, e_eqa_none, e_eqb_none, e_nea_none, e_neb_none, e_eqa_bool, e_eqb_bool, e_nea_bool, e_neb_bool, e_eqa_int, e_eqb_int, e_nea_int, e_neb_int, e_eqa_list, e_eqb_list, e_nea_list, e_neb_list, e_eqa_tuple, e_eqb_tuple, e_nea_tuple, e_neb_tuple, e_eqa_dict, e_eqb_dict, e_nea_dict, e_neb_dict, e_lt, e_le, e_gt, e_ge, e_isin, e_notin, e_is, e_isnt, e_add_ii, e_add_ss, e_add_tt, e_add_ll, e_sub_ii, e_mul_ii, e_mul_ti, e_mul_li, e_fdiv_ii, e_mod_ii, e_pow_ii, e_len_t, e_len_l, e_int_i, e_int_b, e_max_ii, e_min_ii, e_max_l, e_min_l, e_max_t, e_min_t, e_sum_l, e_sum_t, e_all_l, e_any_l, e_tuple_l, e_tuple_t, e_list_l, e_list_t, e_repr_d, e_divmod_ii, e_sorted_l, e_aug_add, e_aug_sub, ogD, gD, at_hd h1, e, Rl.s, l3, tgIn, frOk, wipeE, hc, backE]
theorem lread_loop {hs : Hs} {n m : Nat} (L : LOk hs n m) (S T : D) : ∀ (ss : List Sg) {p : Plc} {on : List Int} (hd : List (Nat × List Int)) (x7 x8 : Option O), plOk hs n p → onOk n on → (∀ s ∈ ss, sgOk hs n m s) → hd.length + ss.length ≤ 10000 →
    ∃ x7' x8', forL (bodyF (setT (.name 6)) (evalSs G__law_read 0 p__law_read_5)) (ss.map Sg.d) [some (.fz (lang hs n m)), some (.fz S), some (.fz T), some (.fz (plD p)), some (.fz (tup on)), some (.lst (hd.map gD)), x7, x8] =
      some (.nx [some (.fz (lang hs n m)), some (.fz S), some (.fz T), some (.fz (plD (rd hs p on ss).1.1)), some (.fz (tup (rd hs p on ss).1.2)), some (.lst ((hd ++ (rd hs p on ss).2).map gD)), x7', x8'])
  | [], p, on, hd, x7, x8, _, _, _, _ => ⟨x7, x8, by simp [forL, rd]⟩
  | s :: ss, p, on, hd, x7, x8, hp, ho, h, hl => by
    have hs1 := h s List.mem_cons_self
    obtain ⟨h1, h2⟩ := tk_ok L hp hs1
    have h3 := nb_ok L ho h2
    rw [List.length_cons] at hl
    have e1 := ev_law_taken L hp hs1
    have e2 := ev_law_lit L ho h2
    have hb : bodyF (setT (.name 6)) (evalSs G__law_read 0 p__law_read_5) s.d [some (.fz (lang hs n m)), some (.fz S), some (.fz T), some (.fz (plD p)), some (.fz (tup on)), some (.lst (hd.map gD)), x7, x8] =
        some (.nx [some (.fz (lang hs n m)), some (.fz S), some (.fz T), some (.fz (plD (tk hs p s).1)), some (.fz (tup (nb hs on (tk hs p s).2))), some (.lst ((hd ++ (tk hs p s).2.toList).map gD)), some (.fz s.d), some (.fz (ogD (tk hs p s).2))]) := by
      simp only [tup] at e1 e2
      generalize hq : (tk hs p s).2 = q at e1 e2 ⊢
      generalize (tk hs p s).1 = q1 at e1 e2 ⊢
      generalize nb hs on q = q3 at e2 ⊢
      have hl2 : hd.length < 16777216 := by omega
      cases q with
      | none =>
        simp only [ogD] at e1 e2
        simp [bodyF, p__law_read_5, p__law_read_2, p__law_read_3, p__law_read_4, f__law_read___law_taken, f__law_read___law_lit, mv, setOs, lim, targets, flats, tup, startE, slot, flatP, O.flat, share, frz, endO, intsOf, boolsOf, setAll, P.still, callD, callI, e_ixt, e_ixl, e_isi_int_none, e_isi_int_bool, e_isi_int_int, e_isi_int_str, e_isi_int_list, e_isi_int_tuple, e_isi_int_dict, e_isi_bool_none, e_isi_bool_bool, e_isi_bool_int, e_isi_bool_str, e_isi_bool_list, e_isi_bool_tuple, e_isi_bool_dict, e_isi_str_none, e_isi_str_bool, e_isi_str_int, e_isi_str_str, e_isi_str_list, e_isi_str_tuple, e_isi_str_dict, e_isi_tuple_none, e_isi_tuple_bool, e_isi_tuple_int, e_isi_tuple_str, e_isi_tuple_list, e_isi_tuple_tuple, e_isi_tuple_dict, e_isi_list_none, e_isi_list_bool, e_isi_list_int, e_isi_list_str, e_isi_list_list, e_isi_list_tuple, e_isi_list_dict, e_isi_dict_none, e_isi_dict_bool, e_isi_dict_int, e_isi_dict_str, e_isi_dict_list, e_isi_dict_tuple, e_isi_dict_dict, e_isN_none, e_isN_bool, e_isN_int, e_isN_str, e_isN_list, e_isN_tuple, e_isN_dict, e_tr_none, e_tr_bool, e_tr_int, e_tr_tuple, e_tr_list, e_row_tuple, e_row_list, e_sl_tuple, e_sl_list, e_set_name, e_set_tup, e_eq_ss, e_ne_ss, e_eqa_none, e_eqb_none, e_nea_none, e_neb_none, e_eqa_bool, e_eqb_bool, e_nea_bool, e_neb_bool, e_eqa_int, e_eqb_int, e_nea_int, e_neb_int, e_eqa_list, e_eqb_list, e_nea_list, e_neb_list, e_eqa_tuple, e_eqb_tuple, e_nea_tuple, e_neb_tuple, e_eqa_dict, e_eqb_dict, e_nea_dict, e_neb_dict, e_lt, e_le, e_gt, e_ge, e_isin, e_notin, e_is, e_isnt, e_add_ii, e_add_ss, e_add_tt, e_add_ll, e_sub_ii, e_mul_ii, e_mul_ti, e_mul_li, e_fdiv_ii, e_mod_ii, e_pow_ii, e_len_t, e_len_l, e_int_i, e_int_b, e_max_ii, e_min_ii, e_max_l, e_min_l, e_max_t, e_min_t, e_sum_l, e_sum_t, e_all_l, e_any_l, e_tuple_l, e_tuple_t, e_list_l, e_list_t, e_repr_d, e_divmod_ii, e_sorted_l, e_aug_add, e_aug_sub, e1, e2, ogD]
      | some x =>
        simp only [ogD, gD] at e1 e2
        simp [bodyF, p__law_read_5, p__law_read_2, p__law_read_3, p__law_read_4, f__law_read___law_taken, f__law_read___law_lit, mv, setOs, lim, targets, flats, tup, startE, slot, flatP, O.flat, share, frz, endO, intsOf, boolsOf, setAll, P.still, callD, callI, e_ixt, e_ixl, e_isi_int_none, e_isi_int_bool, e_isi_int_int, e_isi_int_str, e_isi_int_list, e_isi_int_tuple, e_isi_int_dict, e_isi_bool_none, e_isi_bool_bool, e_isi_bool_int, e_isi_bool_str, e_isi_bool_list, e_isi_bool_tuple, e_isi_bool_dict, e_isi_str_none, e_isi_str_bool, e_isi_str_int, e_isi_str_str, e_isi_str_list, e_isi_str_tuple, e_isi_str_dict, e_isi_tuple_none, e_isi_tuple_bool, e_isi_tuple_int, e_isi_tuple_str, e_isi_tuple_list, e_isi_tuple_tuple, e_isi_tuple_dict, e_isi_list_none, e_isi_list_bool, e_isi_list_int, e_isi_list_str, e_isi_list_list, e_isi_list_tuple, e_isi_list_dict, e_isi_dict_none, e_isi_dict_bool, e_isi_dict_int, e_isi_dict_str, e_isi_dict_list, e_isi_dict_tuple, e_isi_dict_dict, e_isN_none, e_isN_bool, e_isN_int, e_isN_str, e_isN_list, e_isN_tuple, e_isN_dict, e_tr_none, e_tr_bool, e_tr_int, e_tr_tuple, e_tr_list, e_row_tuple, e_row_list, e_sl_tuple, e_sl_list, e_set_name, e_set_tup, e_eq_ss, e_ne_ss, e_eqa_none, e_eqb_none, e_nea_none, e_neb_none, e_eqa_bool, e_eqb_bool, e_nea_bool, e_neb_bool, e_eqa_int, e_eqb_int, e_nea_int, e_neb_int, e_eqa_list, e_eqb_list, e_nea_list, e_neb_list, e_eqa_tuple, e_eqb_tuple, e_nea_tuple, e_neb_tuple, e_eqa_dict, e_eqb_dict, e_nea_dict, e_neb_dict, e_lt, e_le, e_gt, e_ge, e_isin, e_notin, e_is, e_isnt, e_add_ii, e_add_ss, e_add_tt, e_add_ll, e_sub_ii, e_mul_ii, e_mul_ti, e_mul_li, e_fdiv_ii, e_mod_ii, e_pow_ii, e_len_t, e_len_l, e_int_i, e_int_b, e_max_ii, e_min_ii, e_max_l, e_min_l, e_max_t, e_min_t, e_sum_l, e_sum_t, e_all_l, e_any_l, e_tuple_l, e_tuple_t, e_list_l, e_list_t, e_repr_d, e_divmod_ii, e_sorted_l, e_aug_add, e_aug_sub, e1, e2, ogD, gD, isLst, appO, hl2]
    obtain ⟨x7', x8', e⟩ := lread_loop L S T ss (hd ++ (tk hs p s).2.toList) (some (.fz s.d)) (some (.fz (ogD (tk hs p s).2))) h1 h3 (fun x hx => h x (List.mem_cons_of_mem _ hx)) (by
      rw [List.length_append]
      have : (tk hs p s).2.toList.length ≤ 1 := by cases (tk hs p s).2 <;> simp
      omega)
    refine ⟨x7', x8', ?_⟩
    rw [List.map_cons]
    unfold forL
    rw [hb]
    simp only
    rw [e]
    simp only [rd, List.append_assoc]
theorem ev_law_read {hs : Hs} {n m : Nat} (L : LOk hs n m) {p : Plc} {on : List Int} (hp : plOk hs n p) (ho : onOk n on) {ss : List Sg} (h : ∀ s ∈ ss, sgOk hs n m s) (hl : ss.length ≤ 1000) :
    M__law_read [lang hs n m, stD p on, .tuple (ss.map Sg.d)] = some (.ok (.tuple [stD (rd hs p on ss).1.1 (rd hs p on ss).1.2, .tuple ((rd hs p on ss).2.map gD)])) := by
  obtain ⟨x7, x8, e⟩ := lread_loop L (stD p on) (.tuple (ss.map Sg.d)) ss (hd := []) none none hp ho h (by simp; omega)
  have hsl : slO (stD p on) none (some 2) = some (.fz (plD p)) := by
    unfold stD plD slO
    have := cut_take [hD p.1, tup p.2, tup on] 2
    rw [show ((2 : Nat) : Int) = 2 from rfl] at this
    simp only [this]
    rfl
  unfold M__law_read
  simp only [List.map_nil, List.nil_append, tup] at e
  generalize (rd hs p on ss).2 = r2 at e ⊢
  generalize (rd hs p on ss).1 = r1 at e ⊢
  rw [show stD r1.1 r1.2 = .tuple [hD r1.1.1, tup r1.1.2, tup r1.2] from rfl]
  simp [runPure, runIo, runMk, b__law_read, p__law_read_1, p__law_read_2, p__law_read_3, p__law_read_4, p__law_read_6, p__law_read_7, f__law_read___law_taken, f__law_read___law_lit, mv, setOs, lim, targets, flats, tup, startE, slot, flatP, O.flat, share, frz, endO, intsOf, boolsOf, setAll, P.still, callD, callI, e_ixt, e_ixl, e_isi_int_none, e_isi_int_bool, e_isi_int_int, e_isi_int_str, e_isi_int_list, e_isi_int_tuple, e_isi_int_dict, e_isi_bool_none, e_isi_bool_bool, e_isi_bool_int, e_isi_bool_str, e_isi_bool_list, e_isi_bool_tuple, e_isi_bool_dict, e_isi_str_none, e_isi_str_bool, e_isi_str_int, e_isi_str_str, e_isi_str_list, e_isi_str_tuple, e_isi_str_dict, e_isi_tuple_none, e_isi_tuple_bool, e_isi_tuple_int, e_isi_tuple_str, e_isi_tuple_list, e_isi_tuple_tuple, e_isi_tuple_dict, e_isi_list_none, e_isi_list_bool, e_isi_list_int, e_isi_list_str, e_isi_list_list, e_isi_list_tuple, e_isi_list_dict, e_isi_dict_none, e_isi_dict_bool, e_isi_dict_int, e_isi_dict_str, e_isi_dict_list, e_isi_dict_tuple, e_isi_dict_dict, e_isN_none, e_isN_bool, e_isN_int, e_isN_str, e_isN_list, e_isN_tuple, e_isN_dict, e_tr_none, e_tr_bool, e_tr_int, e_tr_tuple, e_tr_list, e_row_tuple, e_row_list, e_sl_tuple, e_sl_list, e_set_name, e_set_tup, e_eq_ss, e_ne_ss, e_eqa_none, e_eqb_none, e_nea_none, e_neb_none, e_eqa_bool, e_eqb_bool, e_nea_bool, e_neb_bool, e_eqa_int, e_eqb_int, e_nea_int, e_neb_int, e_eqa_list, e_eqb_list, e_nea_list, e_neb_list, e_eqa_tuple, e_eqb_tuple, e_nea_tuple, e_neb_tuple, e_eqa_dict, e_eqb_dict, e_nea_dict, e_neb_dict, e_lt, e_le, e_gt, e_ge, e_isin, e_notin, e_is, e_isnt, e_add_ii, e_add_ss, e_add_tt, e_add_ll, e_sub_ii, e_mul_ii, e_mul_ti, e_mul_li, e_fdiv_ii, e_mod_ii, e_pow_ii, e_len_t, e_len_l, e_int_i, e_int_b, e_max_ii, e_min_ii, e_max_l, e_min_l, e_max_t, e_min_t, e_sum_l, e_sum_t, e_all_l, e_any_l, e_tuple_l, e_tuple_t, e_list_l, e_list_t, e_repr_d, e_divmod_ii, e_sorted_l, e_aug_add, e_aug_sub, hsl, e, targets]
end NW
end
section
set_option Elab.async false
set_option linter.all false
set_option maxRecDepth 100000
set_option maxHeartbeats 2000000
namespace NW
open PySem L2
theorem plK_cases {hs : Hs} {n m : Nat} (L : LOk hs n m) (k : Nat) : plK hs n k = (if 0 < (rw' hs k).2 then [((some k, []) : Plc)] else []) ++ (if 1 < (rw' hs k).2 then (List.range n).map fun v : Nat => ((some k, [(v : Int)]) : Plc) else []) := by
  have hr := (rw_ok L k).1
  have : (rw' hs k).2 = 0 ∨ (rw' hs k).2 = 1 ∨ (rw' hs k).2 = 2 := by omega
  unfold plK
  rcases this with e | e | e <;> rw [e]
  · simp
  · simp [rowsAt]
  · simp [List.range_succ, rowsAt, Function.comp_def]
theorem llots_turn {hs : Hs} {n m : Nat} (k : Nat) (hk : k ≤ 4) (x2 x3 x5 x6 x7 : Option O) :
    bodyF (setT (.name 3)) (evalSs G__law_standings 0 p__law_standings_3) (.int (k : Nat)) [some (.fz (lang hs n m)), some (.lst ((lots k).map tup)), x2, x3, none, x5, x6, x7] =
    some (.nx [some (.fz (lang hs n m)), some (.lst ((lots (k + 1)).map tup)), x2, some (.fz (.int (k : Nat))), none, x5, x6, x7]) := by
  have hl := lots_le hk
  have hok : ∀ r ∈ lots k, r.length ≤ 10 := fun r hr => by have := on_len (lots_ok hr); omega
  have c1 : compL (compTurn [4] (setT (.name 4)) (evalT G__law_standings .yes) (evalE G__law_standings p__law_standings_2)) ((lots k).map tup) [some (.fz (lang hs n m)), some (.fz (.list ((lots k).map tup))), x2, some (.fz (.int (k : Nat))), none, x5, x6, x7] =
      some (.ok ((lots k).map fun l => tup (l ++ [(k : Int)])) [some (.fz (lang hs n m)), some (.fz (.list ((lots k).map tup))), x2, some (.fz (.int (k : Nat))), none, x5, x6, x7]) := by
    refine compL_fun _ _ fun r hr => ?_
    have := hok r hr
    have h1 : r.length + 1 ≤ 16777216 := by omega
    simp [compTurn, p__law_standings_2, mv, setOs, lim, targets, flats, tup, startE, slot, flatP, O.flat, share, frz, endO, intsOf, boolsOf, setAll, P.still, callD, callI, e_ixt, e_ixl, e_isi_int_none, e_isi_int_bool, e_isi_int_int, e_isi_int_str, e_isi_int_list, e_isi_int_tuple, e_isi_int_dict, e_isi_bool_none, e_isi_bool_bool, e_isi_bool_int, e_isi_bool_str, e_isi_bool_list, e_isi_bool_tuple, e_isi_bool_dict, e_isi_str_none, e_isi_str_bool, e_isi_str_int, e_isi_str_str, e_isi_str_list, e_isi_str_tuple, e_isi_str_dict, e_isi_tuple_none, e_isi_tuple_bool, e_isi_tuple_int, e_isi_tuple_str, e_isi_tuple_list, e_isi_tuple_tuple, e_isi_tuple_dict, e_isi_list_none, e_isi_list_bool, e_isi_list_int, e_isi_list_str, e_isi_list_list, e_isi_list_tuple, e_isi_list_dict, e_isi_dict_none, e_isi_dict_bool, e_isi_dict_int, e_isi_dict_str, e_isi_dict_list, e_isi_dict_tuple, e_isi_dict_dict, e_isN_none, e_isN_bool, e_isN_int, e_isN_str, e_isN_list, e_isN_tuple, e_isN_dict, e_tr_none, e_tr_bool, e_tr_int, e_tr_tuple, e_tr_list, e_row_tuple, e_row_list, e_sl_tuple, e_sl_list, e_set_name, e_set_tup, e_eq_ss, e_ne_ss, e_eqa_none, e_eqb_none, e_nea_none, e_neb_none, e_eqa_bool, e_eqb_bool, e_nea_bool, e_neb_bool, e_eqa_int, e_eqb_int, e_nea_int, e_neb_int, e_eqa_list, e_eqb_list, e_nea_list, e_neb_list, e_eqa_tuple, e_eqb_tuple, e_nea_tuple, e_neb_tuple, e_eqa_dict, e_eqb_dict, e_nea_dict, e_neb_dict, e_lt, e_le, e_gt, e_ge, e_isin, e_notin, e_is, e_isnt, e_add_ii, e_add_ss, e_add_tt, e_add_ll, e_sub_ii, e_mul_ii, e_mul_ti, e_mul_li, e_fdiv_ii, e_mod_ii, e_pow_ii, e_len_t, e_len_l, e_int_i, e_int_b, e_max_ii, e_min_ii, e_max_l, e_min_l, e_max_t, e_min_t, e_sum_l, e_sum_t, e_all_l, e_any_l, e_tuple_l, e_tuple_t, e_list_l, e_list_t, e_repr_d, e_divmod_ii, e_sorted_l, e_aug_add, e_aug_sub, wipeO, frOk, wipeE, h1]
  have hm : (lots (k + 1)).map tup = (lots k).map tup ++ (lots k).map fun l => tup (l ++ [(k : Int)]) := by
    rw [lots, List.map_append, List.map_map]
    rfl
  rw [hm]
  have l1 : ((lots k).map tup).length ≤ 16777216 := by rw [List.length_map]; omega
  have l2 : ((lots k).map tup).length + ((lots k).map fun l => tup (l ++ [(k : Int)])).length ≤ 16777216 := by rw [List.length_map, List.length_map]; omega
  generalize (lots k).map tup = A at c1 l1 l2 ⊢
  generalize ((lots k).map fun l => tup (l ++ [(k : Int)])) = B at c1 l2 ⊢
  simp [bodyF, p__law_standings_3, mv, setOs, lim, targets, flats, tup, startE, slot, flatP, O.flat, share, frz, endO, intsOf, boolsOf, setAll, P.still, callD, callI, e_ixt, e_ixl, e_isi_int_none, e_isi_int_bool, e_isi_int_int, e_isi_int_str, e_isi_int_list, e_isi_int_tuple, e_isi_int_dict, e_isi_bool_none, e_isi_bool_bool, e_isi_bool_int, e_isi_bool_str, e_isi_bool_list, e_isi_bool_tuple, e_isi_bool_dict, e_isi_str_none, e_isi_str_bool, e_isi_str_int, e_isi_str_str, e_isi_str_list, e_isi_str_tuple, e_isi_str_dict, e_isi_tuple_none, e_isi_tuple_bool, e_isi_tuple_int, e_isi_tuple_str, e_isi_tuple_list, e_isi_tuple_tuple, e_isi_tuple_dict, e_isi_list_none, e_isi_list_bool, e_isi_list_int, e_isi_list_str, e_isi_list_list, e_isi_list_tuple, e_isi_list_dict, e_isi_dict_none, e_isi_dict_bool, e_isi_dict_int, e_isi_dict_str, e_isi_dict_list, e_isi_dict_tuple, e_isi_dict_dict, e_isN_none, e_isN_bool, e_isN_int, e_isN_str, e_isN_list, e_isN_tuple, e_isN_dict, e_tr_none, e_tr_bool, e_tr_int, e_tr_tuple, e_tr_list, e_row_tuple, e_row_list, e_sl_tuple, e_sl_list, e_set_name, e_set_tup, e_eq_ss, e_ne_ss, e_eqa_none, e_eqb_none, e_nea_none, e_neb_none, e_eqa_bool, e_eqb_bool, e_nea_bool, e_neb_bool, e_eqa_int, e_eqb_int, e_nea_int, e_neb_int, e_eqa_list, e_eqb_list, e_nea_list, e_neb_list, e_eqa_tuple, e_eqb_tuple, e_nea_tuple, e_neb_tuple, e_eqa_dict, e_eqb_dict, e_nea_dict, e_neb_dict, e_lt, e_le, e_gt, e_ge, e_isin, e_notin, e_is, e_isnt, e_add_ii, e_add_ss, e_add_tt, e_add_ll, e_sub_ii, e_mul_ii, e_mul_ti, e_mul_li, e_fdiv_ii, e_mod_ii, e_pow_ii, e_len_t, e_len_l, e_int_i, e_int_b, e_max_ii, e_min_ii, e_max_l, e_min_l, e_max_t, e_min_t, e_sum_l, e_sum_t, e_all_l, e_any_l, e_tuple_l, e_tuple_t, e_list_l, e_list_t, e_repr_d, e_divmod_ii, e_sorted_l, e_aug_add, e_aug_sub, tgIn, frOk, wipeE, backE, c1, l1, l2]
theorem llots_turns {hs : Hs} {n m : Nat} (x2 x5 x6 x7 : Option O) : ∀ (c k : Nat) (x3 : Option O), k + c ≤ 4 →
    ∃ x3', forL (bodyF (setT (.name 3)) (evalSs G__law_standings 0 p__law_standings_3)) ((List.range' k c).map fun i : Nat => PyData.int (i : Int)) [some (.fz (lang hs n m)), some (.lst ((lots k).map tup)), x2, x3, none, x5, x6, x7] =
    some (.nx [some (.fz (lang hs n m)), some (.lst ((lots (k + c)).map tup)), x2, x3', none, x5, x6, x7])
  | 0, k, x3, _ => ⟨x3, by simp [forL]⟩
  | c + 1, k, x3, h => by
    obtain ⟨x3', e⟩ := llots_turns (hs := hs) (n := n) (m := m) x2 x5 x6 x7 c (k + 1) (some (.fz (.int (k : Nat)))) (by omega)
    refine ⟨x3', ?_⟩
    rw [List.range'_succ, List.map_cons]
    unfold forL
    rw [llots_turn k (by omega)]
    simp only
    rw [e, show k + (c + 1) = k + 1 + c by omega]
theorem lpl_turn {hs : Hs} {n m : Nat} (L : LOk hs n m) (k : Nat) (hk : k < hs.length) (fd : List Plc) (hf : fd.length ≤ 1000) (x1 x3 x4 x6 x7 : Option O) :
    bodyF (setT (.name 3)) (evalSs G__law_standings 0 p__law_standings_8) (.int (k : Nat)) [some (.fz (lang hs n m)), x1, some (.lst (fd.map plD)), x3, x4, none, x6, x7] =
    some (.nx [some (.fz (lang hs n m)), x1, some (.lst ((fd ++ plK hs n k).map plD)), some (.fz (.int (k : Nat))), x4, none, x6, x7]) := by
  have hn := L.n4
  have q3 : rngOk (n : Int) = true := rngOk_nat (by omega)
  have c1 (x2 : Option O) : compL (compTurn [5] (setT (.name 5)) (evalT G__law_standings .yes) (evalE G__law_standings p__law_standings_6)) (rangeD 0 n) [some (.fz (lang hs n m)), x1, x2, some (.fz (.int (k : Nat))), x4, none, x6, x7] =
      some (.ok (((List.range n).map fun v : Nat => ((some k, [(v : Int)]) : Plc)).map plD) [some (.fz (lang hs n m)), x1, x2, some (.fz (.int (k : Nat))), x4, none, x6, x7]) := by
    rw [rangeD_zero, List.map_map]
    refine compL_fun _ _ fun r hr => ?_
    simp [compTurn, p__law_standings_6, mv, setOs, lim, targets, flats, tup, startE, slot, flatP, O.flat, share, frz, endO, intsOf, boolsOf, setAll, P.still, callD, callI, e_ixt, e_ixl, e_isi_int_none, e_isi_int_bool, e_isi_int_int, e_isi_int_str, e_isi_int_list, e_isi_int_tuple, e_isi_int_dict, e_isi_bool_none, e_isi_bool_bool, e_isi_bool_int, e_isi_bool_str, e_isi_bool_list, e_isi_bool_tuple, e_isi_bool_dict, e_isi_str_none, e_isi_str_bool, e_isi_str_int, e_isi_str_str, e_isi_str_list, e_isi_str_tuple, e_isi_str_dict, e_isi_tuple_none, e_isi_tuple_bool, e_isi_tuple_int, e_isi_tuple_str, e_isi_tuple_list, e_isi_tuple_tuple, e_isi_tuple_dict, e_isi_list_none, e_isi_list_bool, e_isi_list_int, e_isi_list_str, e_isi_list_list, e_isi_list_tuple, e_isi_list_dict, e_isi_dict_none, e_isi_dict_bool, e_isi_dict_int, e_isi_dict_str, e_isi_dict_list, e_isi_dict_tuple, e_isi_dict_dict, e_isN_none, e_isN_bool, e_isN_int, e_isN_str, e_isN_list, e_isN_tuple, e_isN_dict, e_tr_none, e_tr_bool, e_tr_int, e_tr_tuple, e_tr_list, e_row_tuple, e_row_list, e_sl_tuple, e_sl_list, e_set_name, e_set_tup, e_eq_ss, e_ne_ss, e_eqa_none, e_eqb_none, e_nea_none, e_neb_none, e_eqa_bool, e_eqb_bool, e_nea_bool, e_neb_bool, e_eqa_int, e_eqb_int, e_nea_int, e_neb_int, e_eqa_list, e_eqb_list, e_nea_list, e_neb_list, e_eqa_tuple, e_eqb_tuple, e_nea_tuple, e_neb_tuple, e_eqa_dict, e_eqb_dict, e_nea_dict, e_neb_dict, e_lt, e_le, e_gt, e_ge, e_isin, e_notin, e_is, e_isnt, e_add_ii, e_add_ss, e_add_tt, e_add_ll, e_sub_ii, e_mul_ii, e_mul_ti, e_mul_li, e_fdiv_ii, e_mod_ii, e_pow_ii, e_len_t, e_len_l, e_int_i, e_int_b, e_max_ii, e_min_ii, e_max_l, e_min_l, e_max_t, e_min_t, e_sum_l, e_sum_t, e_all_l, e_any_l, e_tuple_l, e_tuple_t, e_list_l, e_list_t, e_repr_d, e_divmod_ii, e_sorted_l, e_aug_add, e_aug_sub, wipeO, frOk, wipeE, plD]
  have hl : (rangeD 0 n).length ≤ 16777216 := by rw [rangeD_length]; omega
  have hR : (((List.range n).map fun v : Nat => ((some k, [(v : Int)]) : Plc)).map plD).length = n := by simp
  rw [plK_cases L k]
  have hf1 : fd.length < 16777216 := by omega
  have hf2 : fd.length + 1 + n ≤ 16777216 := by omega
  have hF : (fd.map plD).length = fd.length := List.length_map ..
  have hr := (rw_ok L k).1
  have : (rw' hs k).2 = 0 ∨ (rw' hs k).2 = 1 ∨ (rw' hs k).2 = 2 := by omega
  have e0 : ([((some k, []) : Plc)]).map plD = [PyData.tuple [.int (k : Nat), .tuple []]] := rfl
  generalize ((List.range n).map fun v : Nat => ((some k, [(v : Int)]) : Plc)) = RR at c1 hR ⊢
  rcases this with e | e | e
  · simp [bodyF, p__law_standings_8, p__law_standings_5, p__law_standings_7, mv, setOs, lim, targets, flats, tup, startE, slot, flatP, O.flat, share, frz, endO, intsOf, boolsOf, setAll, P.still, callD, callI, e_ixt, e_ixl, e_isi_int_none, e_isi_int_bool, e_isi_int_int, e_isi_int_str, e_isi_int_list, e_isi_int_tuple, e_isi_int_dict, e_isi_bool_none, e_isi_bool_bool, e_isi_bool_int, e_isi_bool_str, e_isi_bool_list, e_isi_bool_tuple, e_isi_bool_dict, e_isi_str_none, e_isi_str_bool, e_isi_str_int, e_isi_str_str, e_isi_str_list, e_isi_str_tuple, e_isi_str_dict, e_isi_tuple_none, e_isi_tuple_bool, e_isi_tuple_int, e_isi_tuple_str, e_isi_tuple_list, e_isi_tuple_tuple, e_isi_tuple_dict, e_isi_list_none, e_isi_list_bool, e_isi_list_int, e_isi_list_str, e_isi_list_list, e_isi_list_tuple, e_isi_list_dict, e_isi_dict_none, e_isi_dict_bool, e_isi_dict_int, e_isi_dict_str, e_isi_dict_list, e_isi_dict_tuple, e_isi_dict_dict, e_isN_none, e_isN_bool, e_isN_int, e_isN_str, e_isN_list, e_isN_tuple, e_isN_dict, e_tr_none, e_tr_bool, e_tr_int, e_tr_tuple, e_tr_list, e_row_tuple, e_row_list, e_sl_tuple, e_sl_list, e_set_name, e_set_tup, e_eq_ss, e_ne_ss, e_eqa_none, e_eqb_none, e_nea_none, e_neb_none, e_eqa_bool, e_eqb_bool, e_nea_bool, e_neb_bool, e_eqa_int, e_eqb_int, e_nea_int, e_neb_int, e_eqa_list, e_eqb_list, e_nea_list, e_neb_list, e_eqa_tuple, e_eqb_tuple, e_nea_tuple, e_neb_tuple, e_eqa_dict, e_eqb_dict, e_nea_dict, e_neb_dict, e_lt, e_le, e_gt, e_ge, e_isin, e_notin, e_is, e_isnt, e_add_ii, e_add_ss, e_add_tt, e_add_ll, e_sub_ii, e_mul_ii, e_mul_ti, e_mul_li, e_fdiv_ii, e_mod_ii, e_pow_ii, e_len_t, e_len_l, e_int_i, e_int_b, e_max_ii, e_min_ii, e_max_l, e_min_l, e_max_t, e_min_t, e_sum_l, e_sum_t, e_all_l, e_any_l, e_tuple_l, e_tuple_t, e_list_l, e_list_t, e_repr_d, e_divmod_ii, e_sorted_l, e_aug_add, e_aug_sub, at_hd hk, e]
  · simp [bodyF, p__law_standings_8, p__law_standings_5, p__law_standings_7, mv, setOs, lim, targets, flats, tup, startE, slot, flatP, O.flat, share, frz, endO, intsOf, boolsOf, setAll, P.still, callD, callI, e_ixt, e_ixl, e_isi_int_none, e_isi_int_bool, e_isi_int_int, e_isi_int_str, e_isi_int_list, e_isi_int_tuple, e_isi_int_dict, e_isi_bool_none, e_isi_bool_bool, e_isi_bool_int, e_isi_bool_str, e_isi_bool_list, e_isi_bool_tuple, e_isi_bool_dict, e_isi_str_none, e_isi_str_bool, e_isi_str_int, e_isi_str_str, e_isi_str_list, e_isi_str_tuple, e_isi_str_dict, e_isi_tuple_none, e_isi_tuple_bool, e_isi_tuple_int, e_isi_tuple_str, e_isi_tuple_list, e_isi_tuple_tuple, e_isi_tuple_dict, e_isi_list_none, e_isi_list_bool, e_isi_list_int, e_isi_list_str, e_isi_list_list, e_isi_list_tuple, e_isi_list_dict, e_isi_dict_none, e_isi_dict_bool, e_isi_dict_int, e_isi_dict_str, e_isi_dict_list, e_isi_dict_tuple, e_isi_dict_dict, e_isN_none, e_isN_bool, e_isN_int, e_isN_str, e_isN_list, e_isN_tuple, e_isN_dict, e_tr_none, e_tr_bool, e_tr_int, e_tr_tuple, e_tr_list, e_row_tuple, e_row_list, e_sl_tuple, e_sl_list, e_set_name, e_set_tup, e_eq_ss, e_ne_ss, e_eqa_none, e_eqb_none, e_nea_none, e_neb_none, e_eqa_bool, e_eqb_bool, e_nea_bool, e_neb_bool, e_eqa_int, e_eqb_int, e_nea_int, e_neb_int, e_eqa_list, e_eqb_list, e_nea_list, e_neb_list, e_eqa_tuple, e_eqb_tuple, e_nea_tuple, e_neb_tuple, e_eqa_dict, e_eqb_dict, e_nea_dict, e_neb_dict, e_lt, e_le, e_gt, e_ge, e_isin, e_notin, e_is, e_isnt, e_add_ii, e_add_ss, e_add_tt, e_add_ll, e_sub_ii, e_mul_ii, e_mul_ti, e_mul_li, e_fdiv_ii, e_mod_ii, e_pow_ii, e_len_t, e_len_l, e_int_i, e_int_b, e_max_ii, e_min_ii, e_max_l, e_min_l, e_max_t, e_min_t, e_sum_l, e_sum_t, e_all_l, e_any_l, e_tuple_l, e_tuple_t, e_list_l, e_list_t, e_repr_d, e_divmod_ii, e_sorted_l, e_aug_add, e_aug_sub, at_hd hk, e, isLst, appO, hf1, plD]
  · rw [if_pos (by omega), if_pos (by omega), List.map_append, List.map_append, e0]
    generalize RR.map plD = R2 at c1 hR ⊢
    generalize fd.map plD = F2 at hF ⊢
    rw [← hF] at hf1
    rw [← hF, ← hR] at hf2
    simp [bodyF, p__law_standings_8, p__law_standings_5, p__law_standings_7, mv, setOs, lim, targets, flats, tup, startE, slot, flatP, O.flat, share, frz, endO, intsOf, boolsOf, setAll, P.still, callD, callI, e_ixt, e_ixl, e_isi_int_none, e_isi_int_bool, e_isi_int_int, e_isi_int_str, e_isi_int_list, e_isi_int_tuple, e_isi_int_dict, e_isi_bool_none, e_isi_bool_bool, e_isi_bool_int, e_isi_bool_str, e_isi_bool_list, e_isi_bool_tuple, e_isi_bool_dict, e_isi_str_none, e_isi_str_bool, e_isi_str_int, e_isi_str_str, e_isi_str_list, e_isi_str_tuple, e_isi_str_dict, e_isi_tuple_none, e_isi_tuple_bool, e_isi_tuple_int, e_isi_tuple_str, e_isi_tuple_list, e_isi_tuple_tuple, e_isi_tuple_dict, e_isi_list_none, e_isi_list_bool, e_isi_list_int, e_isi_list_str, e_isi_list_list, e_isi_list_tuple, e_isi_list_dict, e_isi_dict_none, e_isi_dict_bool, e_isi_dict_int, e_isi_dict_str, e_isi_dict_list, e_isi_dict_tuple, e_isi_dict_dict, e_isN_none, e_isN_bool, e_isN_int, e_isN_str, e_isN_list, e_isN_tuple, e_isN_dict, e_tr_none, e_tr_bool, e_tr_int, e_tr_tuple, e_tr_list, e_row_tuple, e_row_list, e_sl_tuple, e_sl_list, e_set_name, e_set_tup, e_eq_ss, e_ne_ss, e_eqa_none, e_eqb_none, e_nea_none, e_neb_none, e_eqa_bool, e_eqb_bool, e_nea_bool, e_neb_bool, e_eqa_int, e_eqb_int, e_nea_int, e_neb_int, e_eqa_list, e_eqb_list, e_nea_list, e_neb_list, e_eqa_tuple, e_eqb_tuple, e_nea_tuple, e_neb_tuple, e_eqa_dict, e_eqb_dict, e_nea_dict, e_neb_dict, e_lt, e_le, e_gt, e_ge, e_isin, e_notin, e_is, e_isnt, e_add_ii, e_add_ss, e_add_tt, e_add_ll, e_sub_ii, e_mul_ii, e_mul_ti, e_mul_li, e_fdiv_ii, e_mod_ii, e_pow_ii, e_len_t, e_len_l, e_int_i, e_int_b, e_max_ii, e_min_ii, e_max_l, e_min_l, e_max_t, e_min_t, e_sum_l, e_sum_t, e_all_l, e_any_l, e_tuple_l, e_tuple_t, e_list_l, e_list_t, e_repr_d, e_divmod_ii, e_sorted_l, e_aug_add, e_aug_sub, at_hd hk, e, isLst, appO, hf1, q3, tgIn, frOk, wipeE, backE, c1, hl, hf2]
theorem lpl_turns {hs : Hs} {n m : Nat} (L : LOk hs n m) (x1 x4 x6 x7 : Option O) : ∀ (c k : Nat) (fd : List Plc) (x3 : Option O), k + c ≤ hs.length → fd.length + 10 * c ≤ 1000 →
    ∃ x3', forL (bodyF (setT (.name 3)) (evalSs G__law_standings 0 p__law_standings_8)) ((List.range' k c).map fun i : Nat => PyData.int (i : Int)) [some (.fz (lang hs n m)), x1, some (.lst (fd.map plD)), x3, x4, none, x6, x7] =
    some (.nx [some (.fz (lang hs n m)), x1, some (.lst ((fd ++ ((List.range' k c).map (plK hs n)).flatten).map plD)), x3', x4, none, x6, x7])
  | 0, k, fd, x3, _, _ => ⟨x3, by simp [forL]⟩
  | c + 1, k, fd, x3, h, hf => by
    obtain ⟨x3', e⟩ := lpl_turns L x1 x4 x6 x7 c (k + 1) (fd ++ plK hs n k) (some (.fz (.int (k : Nat)))) (by omega) (by
      rw [List.length_append]
      have := plK_len L k
      omega)
    refine ⟨x3', ?_⟩
    rw [List.range'_succ, List.map_cons]
    unfold forL
    rw [lpl_turn L k (by omega) fd (by omega)]
    simp only
    rw [e]
    simp
theorem lrow_turn {hs : Hs} {n m : Nat} (L : LOk hs n m) (v : O) (hv : v = .lst ((lots n).map tup) ∨ v = .fz (.list ((lots n).map tup))) (p : Plc) (rs : List D) (hl : rs.length ≤ 10000) (x2 x3 x5 x7 : Option O) :
    bodyF (setT (.name 7)) (evalSs G__law_standings 0 p__law_standings_12) (plD p) [some (.fz (lang hs n m)), some v, x2, x3, none, x5, some (.lst rs), x7] =
    some (.nx [some (.fz (lang hs n m)), some (.fz (.list ((lots n).map tup))), x2, x3, none, x5, some (.lst (rs ++ (lots n).map fun on => stD p on)), some (.fz (plD p))]) := by
  have hk := lots_le L.n4
  have c1 (x6 : Option O) : compL (compTurn [4] (setT (.name 4)) (evalT G__law_standings .yes) (evalE G__law_standings p__law_standings_11)) ((lots n).map tup) [some (.fz (lang hs n m)), some (.fz (.list ((lots n).map tup))), x2, x3, none, x5, x6, some (.fz (plD p))] =
      some (.ok ((lots n).map fun on => stD p on) [some (.fz (lang hs n m)), some (.fz (.list ((lots n).map tup))), x2, x3, none, x5, x6, some (.fz (plD p))]) := by
    refine compL_fun _ _ fun r hr => ?_
    simp [compTurn, p__law_standings_11, mv, setOs, lim, targets, flats, tup, startE, slot, flatP, O.flat, share, frz, endO, intsOf, boolsOf, setAll, P.still, callD, callI, e_ixt, e_ixl, e_isi_int_none, e_isi_int_bool, e_isi_int_int, e_isi_int_str, e_isi_int_list, e_isi_int_tuple, e_isi_int_dict, e_isi_bool_none, e_isi_bool_bool, e_isi_bool_int, e_isi_bool_str, e_isi_bool_list, e_isi_bool_tuple, e_isi_bool_dict, e_isi_str_none, e_isi_str_bool, e_isi_str_int, e_isi_str_str, e_isi_str_list, e_isi_str_tuple, e_isi_str_dict, e_isi_tuple_none, e_isi_tuple_bool, e_isi_tuple_int, e_isi_tuple_str, e_isi_tuple_list, e_isi_tuple_tuple, e_isi_tuple_dict, e_isi_list_none, e_isi_list_bool, e_isi_list_int, e_isi_list_str, e_isi_list_list, e_isi_list_tuple, e_isi_list_dict, e_isi_dict_none, e_isi_dict_bool, e_isi_dict_int, e_isi_dict_str, e_isi_dict_list, e_isi_dict_tuple, e_isi_dict_dict, e_isN_none, e_isN_bool, e_isN_int, e_isN_str, e_isN_list, e_isN_tuple, e_isN_dict, e_tr_none, e_tr_bool, e_tr_int, e_tr_tuple, e_tr_list, e_row_tuple, e_row_list, e_sl_tuple, e_sl_list, e_set_name, e_set_tup, e_eq_ss, e_ne_ss, e_eqa_none, e_eqb_none, e_nea_none, e_neb_none, e_eqa_bool, e_eqb_bool, e_nea_bool, e_neb_bool, e_eqa_int, e_eqb_int, e_nea_int, e_neb_int, e_eqa_list, e_eqb_list, e_nea_list, e_neb_list, e_eqa_tuple, e_eqb_tuple, e_nea_tuple, e_neb_tuple, e_eqa_dict, e_eqb_dict, e_nea_dict, e_neb_dict, e_lt, e_le, e_gt, e_ge, e_isin, e_notin, e_is, e_isnt, e_add_ii, e_add_ss, e_add_tt, e_add_ll, e_sub_ii, e_mul_ii, e_mul_ti, e_mul_li, e_fdiv_ii, e_mod_ii, e_pow_ii, e_len_t, e_len_l, e_int_i, e_int_b, e_max_ii, e_min_ii, e_max_l, e_min_l, e_max_t, e_min_t, e_sum_l, e_sum_t, e_all_l, e_any_l, e_tuple_l, e_tuple_t, e_list_l, e_list_t, e_repr_d, e_divmod_ii, e_sorted_l, e_aug_add, e_aug_sub, wipeO, frOk, wipeE, stD]
  have l1 : ((lots n).map tup).length ≤ 16777216 := by rw [List.length_map]; omega
  have l2 : rs.length + ((lots n).map fun on => stD p on).length ≤ 16777216 := by rw [List.length_map]; omega
  generalize ((lots n).map fun on => stD p on) = B at c1 l2 ⊢
  generalize (lots n).map tup = A at c1 hv l1 ⊢
  rcases hv with rfl | rfl
  · simp [bodyF, p__law_standings_12, mv, setOs, lim, targets, flats, tup, startE, slot, flatP, O.flat, share, frz, endO, intsOf, boolsOf, setAll, P.still, callD, callI, e_ixt, e_ixl, e_isi_int_none, e_isi_int_bool, e_isi_int_int, e_isi_int_str, e_isi_int_list, e_isi_int_tuple, e_isi_int_dict, e_isi_bool_none, e_isi_bool_bool, e_isi_bool_int, e_isi_bool_str, e_isi_bool_list, e_isi_bool_tuple, e_isi_bool_dict, e_isi_str_none, e_isi_str_bool, e_isi_str_int, e_isi_str_str, e_isi_str_list, e_isi_str_tuple, e_isi_str_dict, e_isi_tuple_none, e_isi_tuple_bool, e_isi_tuple_int, e_isi_tuple_str, e_isi_tuple_list, e_isi_tuple_tuple, e_isi_tuple_dict, e_isi_list_none, e_isi_list_bool, e_isi_list_int, e_isi_list_str, e_isi_list_list, e_isi_list_tuple, e_isi_list_dict, e_isi_dict_none, e_isi_dict_bool, e_isi_dict_int, e_isi_dict_str, e_isi_dict_list, e_isi_dict_tuple, e_isi_dict_dict, e_isN_none, e_isN_bool, e_isN_int, e_isN_str, e_isN_list, e_isN_tuple, e_isN_dict, e_tr_none, e_tr_bool, e_tr_int, e_tr_tuple, e_tr_list, e_row_tuple, e_row_list, e_sl_tuple, e_sl_list, e_set_name, e_set_tup, e_eq_ss, e_ne_ss, e_eqa_none, e_eqb_none, e_nea_none, e_neb_none, e_eqa_bool, e_eqb_bool, e_nea_bool, e_neb_bool, e_eqa_int, e_eqb_int, e_nea_int, e_neb_int, e_eqa_list, e_eqb_list, e_nea_list, e_neb_list, e_eqa_tuple, e_eqb_tuple, e_nea_tuple, e_neb_tuple, e_eqa_dict, e_eqb_dict, e_nea_dict, e_neb_dict, e_lt, e_le, e_gt, e_ge, e_isin, e_notin, e_is, e_isnt, e_add_ii, e_add_ss, e_add_tt, e_add_ll, e_sub_ii, e_mul_ii, e_mul_ti, e_mul_li, e_fdiv_ii, e_mod_ii, e_pow_ii, e_len_t, e_len_l, e_int_i, e_int_b, e_max_ii, e_min_ii, e_max_l, e_min_l, e_max_t, e_min_t, e_sum_l, e_sum_t, e_all_l, e_any_l, e_tuple_l, e_tuple_t, e_list_l, e_list_t, e_repr_d, e_divmod_ii, e_sorted_l, e_aug_add, e_aug_sub, tgIn, frOk, wipeE, backE, c1, l1, l2]
  · simp [bodyF, p__law_standings_12, mv, setOs, lim, targets, flats, tup, startE, slot, flatP, O.flat, share, frz, endO, intsOf, boolsOf, setAll, P.still, callD, callI, e_ixt, e_ixl, e_isi_int_none, e_isi_int_bool, e_isi_int_int, e_isi_int_str, e_isi_int_list, e_isi_int_tuple, e_isi_int_dict, e_isi_bool_none, e_isi_bool_bool, e_isi_bool_int, e_isi_bool_str, e_isi_bool_list, e_isi_bool_tuple, e_isi_bool_dict, e_isi_str_none, e_isi_str_bool, e_isi_str_int, e_isi_str_str, e_isi_str_list, e_isi_str_tuple, e_isi_str_dict, e_isi_tuple_none, e_isi_tuple_bool, e_isi_tuple_int, e_isi_tuple_str, e_isi_tuple_list, e_isi_tuple_tuple, e_isi_tuple_dict, e_isi_list_none, e_isi_list_bool, e_isi_list_int, e_isi_list_str, e_isi_list_list, e_isi_list_tuple, e_isi_list_dict, e_isi_dict_none, e_isi_dict_bool, e_isi_dict_int, e_isi_dict_str, e_isi_dict_list, e_isi_dict_tuple, e_isi_dict_dict, e_isN_none, e_isN_bool, e_isN_int, e_isN_str, e_isN_list, e_isN_tuple, e_isN_dict, e_tr_none, e_tr_bool, e_tr_int, e_tr_tuple, e_tr_list, e_row_tuple, e_row_list, e_sl_tuple, e_sl_list, e_set_name, e_set_tup, e_eq_ss, e_ne_ss, e_eqa_none, e_eqb_none, e_nea_none, e_neb_none, e_eqa_bool, e_eqb_bool, e_nea_bool, e_neb_bool, e_eqa_int, e_eqb_int, e_nea_int, e_neb_int, e_eqa_list, e_eqb_list, e_nea_list, e_neb_list, e_eqa_tuple, e_eqb_tuple, e_nea_tuple, e_neb_tuple, e_eqa_dict, e_eqb_dict, e_nea_dict, e_neb_dict, e_lt, e_le, e_gt, e_ge, e_isin, e_notin, e_is, e_isnt, e_add_ii, e_add_ss, e_add_tt, e_add_ll, e_sub_ii, e_mul_ii, e_mul_ti, e_mul_li, e_fdiv_ii, e_mod_ii, e_pow_ii, e_len_t, e_len_l, e_int_i, e_int_b, e_max_ii, e_min_ii, e_max_l, e_min_l, e_max_t, e_min_t, e_sum_l, e_sum_t, e_all_l, e_any_l, e_tuple_l, e_tuple_t, e_list_l, e_list_t, e_repr_d, e_divmod_ii, e_sorted_l, e_aug_add, e_aug_sub, tgIn, frOk, wipeE, backE, c1, l1, l2]
theorem lrow_turns {hs : Hs} {n m : Nat} (L : LOk hs n m) (x2 x3 x5 : Option O) : ∀ (ps : List Plc) (v : O) (rs : List D) (x7 : Option O), (v = .lst ((lots n).map tup) ∨ v = .fz (.list ((lots n).map tup))) → rs.length + 20 * ps.length ≤ 10000 →
    ∃ v' x7', forL (bodyF (setT (.name 7)) (evalSs G__law_standings 0 p__law_standings_12)) (ps.map plD) [some (.fz (lang hs n m)), some v, x2, x3, none, x5, some (.lst rs), x7] =
    some (.nx [some (.fz (lang hs n m)), some v', x2, x3, none, x5, some (.lst (rs ++ (ps.map fun p => (lots n).map fun on => stD p on).flatten)), x7'])
  | [], v, rs, x7, _, _ => ⟨v, x7, by simp [forL]⟩
  | p :: ps, v, rs, x7, hv, hl => by
    have hk := lots_le L.n4
    rw [List.length_cons] at hl
    obtain ⟨v', x7', e⟩ := lrow_turns L x2 x3 x5 ps _ (rs ++ (lots n).map fun on => stD p on) (some (.fz (plD p))) (.inr rfl) (by rw [List.length_append, List.length_map]; omega)
    refine ⟨v', x7', ?_⟩
    rw [List.map_cons]
    unfold forL
    rw [lrow_turn L v hv p rs (by omega)]
    simp only
    rw [e]
    simp
theorem ev_law_standings {hs : Hs} {n m : Nat} (L : LOk hs n m) : M__law_standings [lang hs n m] = some (.ok (.list (stsS hs n))) := by
  have hn := L.n4
  have h4 := L.h4
  obtain ⟨x3, e1⟩ := llots_turns (hs := hs) (n := n) (m := m) (some (.lst [PyData.tuple [.int (-1), .tuple []]])) none none none n 0 none (by omega)
  rw [← List.range_eq_range', ← rangeD_zero, show (lots 0).map tup = [PyData.tuple []] from rfl, Nat.zero_add] at e1
  obtain ⟨x3', e2⟩ := lpl_turns L (some (.lst ((lots n).map tup))) none none none hs.length 0 [(none, [])] x3 (by omega) (by simp; omega)
  rw [← List.range_eq_range', ← rangeD_zero, show [((none, []) : Plc)] ++ ((List.range hs.length).map (plK hs n)).flatten = plcs hs n from rfl, show ([((none, []) : Plc)]).map plD = [PyData.tuple [.int (-1), .tuple []]] from rfl] at e2
  have hpl := plcs_len L
  obtain ⟨v', x7', e3⟩ := lrow_turns L (some (.fz (.list ((plcs hs n).map plD)))) x3' none (plcs hs n) (.lst ((lots n).map tup)) [] none (.inl rfl) (by simp; omega)
  rw [List.nil_append, show ((plcs hs n).map fun p => (lots n).map fun on => stD p on).flatten = sts hs n from rfl] at e3
  have q1 : rngOk (n : Int) = true := rngOk_nat (by omega)
  have q2 : rngOk (hs.length : Int) = true := rngOk_nat (by omega)
  have hso := sts_sortOk L
  unfold stsS
  generalize sts hs n = S at e3 hso ⊢
  generalize (plcs hs n).map plD = PL at e2 e3 ⊢
  generalize (lots n).map tup = T at e1 e2 e3 ⊢
  unfold M__law_standings
  simp [runPure, runIo, runMk, b__law_standings, p__law_standings_1, p__law_standings_4, p__law_standings_5, p__law_standings_7, p__law_standings_9, p__law_standings_10, p__law_standings_13, p__law_standings_14, mv, setOs, lim, targets, flats, tup, startE, slot, flatP, O.flat, share, frz, endO, intsOf, boolsOf, setAll, P.still, callD, callI, e_ixt, e_ixl, e_isi_int_none, e_isi_int_bool, e_isi_int_int, e_isi_int_str, e_isi_int_list, e_isi_int_tuple, e_isi_int_dict, e_isi_bool_none, e_isi_bool_bool, e_isi_bool_int, e_isi_bool_str, e_isi_bool_list, e_isi_bool_tuple, e_isi_bool_dict, e_isi_str_none, e_isi_str_bool, e_isi_str_int, e_isi_str_str, e_isi_str_list, e_isi_str_tuple, e_isi_str_dict, e_isi_tuple_none, e_isi_tuple_bool, e_isi_tuple_int, e_isi_tuple_str, e_isi_tuple_list, e_isi_tuple_tuple, e_isi_tuple_dict, e_isi_list_none, e_isi_list_bool, e_isi_list_int, e_isi_list_str, e_isi_list_list, e_isi_list_tuple, e_isi_list_dict, e_isi_dict_none, e_isi_dict_bool, e_isi_dict_int, e_isi_dict_str, e_isi_dict_list, e_isi_dict_tuple, e_isi_dict_dict, e_isN_none, e_isN_bool, e_isN_int, e_isN_str, e_isN_list, e_isN_tuple, e_isN_dict, e_tr_none, e_tr_bool, e_tr_int, e_tr_tuple, e_tr_list, e_row_tuple, e_row_list, e_sl_tuple, e_sl_list, e_set_name, e_set_tup, e_eq_ss, e_ne_ss, e_eqa_none, e_eqb_none, e_nea_none, e_neb_none, e_eqa_bool, e_eqb_bool, e_nea_bool, e_neb_bool, e_eqa_int, e_eqb_int, e_nea_int, e_neb_int, e_eqa_list, e_eqb_list, e_nea_list, e_neb_list, e_eqa_tuple, e_eqb_tuple, e_nea_tuple, e_neb_tuple, e_eqa_dict, e_eqb_dict, e_nea_dict, e_neb_dict, e_lt, e_le, e_gt, e_ge, e_isin, e_notin, e_is, e_isnt, e_add_ii, e_add_ss, e_add_tt, e_add_ll, e_sub_ii, e_mul_ii, e_mul_ti, e_mul_li, e_fdiv_ii, e_mod_ii, e_pow_ii, e_len_t, e_len_l, e_int_i, e_int_b, e_max_ii, e_min_ii, e_max_l, e_min_l, e_max_t, e_min_t, e_sum_l, e_sum_t, e_all_l, e_any_l, e_tuple_l, e_tuple_t, e_list_l, e_list_t, e_repr_d, e_divmod_ii, e_sorted_l, e_aug_add, e_aug_sub, q1, q2, targets, e1, e2, e3, hso]
theorem fine_gD {hs : Hs} {n m : Nat} (L : LOk hs n m) {x : Nat × List Int} (h : msOk hs n x) : Fine 2 500 (gD x) := by
  obtain ⟨h1, h2, h3⟩ := h
  have h4 := L.h4
  have hn := L.n4
  have hr := (rw_ok L x.1).1
  refine Fine.tuple (k := 1) (c := 200) (N := 2) (fun y hy => ?_) (by simp) (by omega)
  simp only [List.mem_cons, List.not_mem_nil, or_false] at hy
  rcases hy with rfl | rfl
  · exact (Fine.nat (by omega)).mono (by omega) (by omega)
  · exact fine_tup (N := 2) h3 (by omega) (by omega) (by omega)
theorem at_mem {ds : List D} {k : Nat} (h : k < ds.length) : ∃ d ∈ ds, atI ds (k : Int) = some d := by
  refine ⟨ds[k], List.getElem_mem h, ?_⟩
  unfold atI ixN
  rw [if_pos (by omega), if_pos (by omega)]
  show ds[((k : Int)).toNat]? = _
  rw [Int.toNat_natCast, List.getElem?_eq_getElem h]
theorem lots_nil : ∀ n, ([] : List Int) ∈ lots n
  | 0 => by simp [lots]
  | n + 1 => by rw [lots]; exact List.mem_append_left _ (lots_nil n)
end NW
end
section
set_option Elab.async false
set_option linter.all false
set_option maxRecDepth 100000
set_option maxHeartbeats 2000000
namespace NW
open PySem L2
/-! the draws -/
theorem cut_one (xs : List D) : cutD xs (some 1) none = xs.drop 1 := by
  unfold cutD
  have := HT.sIx_nat xs.length 0 1
  rw [show ((1 : Nat) : Int) = 1 from rfl] at this
  rw [this, HT.sIx_none]
  cases xs with
  | nil => simp
  | cons x xs =>
    have e : min 1 (x :: xs).length = 1 := by rw [List.length_cons]; omega
    rw [e, List.take_of_length_le (by simp)]
def stK (c g : List Int) (s : Int) : List (Key × Fld) := [(.inr "cells", .ls (c.map .int)), (.inr "left", .ls (g.map .int)), (.inr "at", .fz (.int s))]
theorem lk_cells (c g : List Int) (s : Int) : look (stK c g s) (.inr "cells") = some (.ls (c.map .int)) := rfl
theorem lk_left (c g : List Int) (s : Int) : look (stK c g s) (.inr "left") = some (.ls (g.map .int)) := rfl
theorem lk_at (c g : List Int) (s : Int) : look (stK c g s) (.inr "at") = some (.fz (.int s)) := rfl
theorem pf_left (c g g' : List Int) (s : Int) : putF (stK c g s) (.inr "left") (.ls (g'.map .int)) = stK c g' s := rfl
theorem pf_at (c g : List Int) (s s' : Int) : putF (stK c g s) (.inr "at") (.fz (.int s')) = stK c g s' := rfl
theorem ko_st (c g : List Int) (s : Int) : keysOk (stK c g s) = true := by
  show decide ([Sum.inr "cells", Sum.inr "left", Sum.inr "at"] : List Key).Nodup = true
  decide +kernel
theorem len_st (c g : List Int) (s : Int) : (stK c g s).length = 3 := rfl
def isGreat : D → Bool
  | .int x => decide (10 ^ 18 ≤ x)
  | _ => false
@[simp] theorem eqD_cn' (x : Int) (xs : List Int) : eqD (.list (.int x :: xs.map .int)) (.list []) = some false := eqD_ints (x :: xs) []
theorem ev_begun (ns : List Int) (h : ns.length ≤ 63) : M__law_begun [.list (ns.map .int)] = some (.dct (stK ns (ns.filter fun x => decide (10 ^ 18 ≤ x)) 0)) := by
  have hc : compL (compTurn [1] (setT (.name 1)) (evalT G__law_begun p__law_begun_1) (evalE G__law_begun p__law_begun_2)) (ns.map PyData.int) [some (.fz (.list (ns.map .int))), none] = some (.ok ((ns.map PyData.int).filter isGreat) [some (.fz (.list (ns.map .int))), none]) := by
    refine compL_filter _ fun d hd => ?_
    obtain ⟨x, _, rfl⟩ := List.mem_map.mp hd
    by_cases hx : (10 : Int) ^ 18 ≤ x
    · have hx' : (1000000000000000000 : Int) ≤ x := hx
      simp [compTurn, p__law_begun_1, p__law_begun_2, mv, setOs, lim, targets, flats, tup, startE, slot, flatP, O.flat, share, frz, truthD, isiD, endO, isNone, ixD, slO, cmpO, binO, biO, intsOf, boolsOf, setT, setAll, rowOf, P.still, callD, callI, wipeO, frOk, wipeE, isGreat, hx']
    · have hx' : ¬ (1000000000000000000 : Int) ≤ x := hx
      simp [compTurn, p__law_begun_1, p__law_begun_2, mv, setOs, lim, targets, flats, tup, startE, slot, flatP, O.flat, share, frz, truthD, isiD, endO, isNone, ixD, slO, cmpO, binO, biO, intsOf, boolsOf, setT, setAll, rowOf, P.still, callD, callI, wipeO, frOk, wipeE, isGreat, hx']
  have hf : ((ns.map PyData.int).filter isGreat) = (ns.filter fun x => decide (10 ^ 18 ≤ x)).map PyData.int := by
    rw [List.filter_map]; rfl
  rw [hf] at hc
  have hl : ns.length ≤ 16777216 := by omega
  generalize ns.filter (fun x => decide (10 ^ 18 ≤ x)) = gs at hc ⊢
  unfold M__law_begun
  simp [runMk, b__law_begun, mv, setOs, lim, targets, flats, tup, startE, slot, flatP, O.flat, share, frz, truthD, isiD, endO, isNone, ixD, slO, cmpO, binO, biO, intsOf, boolsOf, setT, setAll, rowOf, P.still, callD, callI, tgIn, frOk, wipeE, hc, backE, hl]
  first | rfl | exact ⟨rfl, by decide +kernel⟩ | skip
theorem next_loop (c : List Int) (s : Int) (x1 x2 x3 x4 x5 : Option O) : ∀ (n : Nat) (g : List Int), g.length < n → ∃ g', g'.length ≤ g.length ∧ (g' = [] ∨ ∃ y r, g' = y :: r) ∧
    whileL (evalT G__law_next (.and (.of (.cmp .ne (.fld 0 "left") (.lst .nil))) (.of (.cmp .eq (.ix (.fld 0 "left") (.lit (.int 0))) (.lit (.int 0)))))) (evalSs G__law_next 1 p__law_next_1) n [some (.dct (stK c g s)), x1, x2, x3, x4, x5] = some (.nx [some (.dct (stK c g' s)), x1, x2, x3, x4, x5]) := by
  intro n
  induction n with
  | zero => intro g h; omega
  | succ n ih =>
    intro g h
    cases g with
    | nil =>
      refine ⟨[], Nat.le_refl _, .inl rfl, ?_⟩
      unfold whileL
      simp [mv, setOs, lim, targets, flats, tup, startE, slot, flatP, O.flat, share, frz, truthD, isiD, endO, isNone, ixD, slO, cmpO, binO, biO, intsOf, boolsOf, setT, setAll, rowOf, P.still, callD, callI, lk_left]
    | cons y r =>
      by_cases hy : y = 0
      · subst hy
        obtain ⟨g', h1, h2, h3⟩ := ih r (by rw [List.length_cons] at h; omega)
        refine ⟨g', by rw [List.length_cons]; omega, h2, ?_⟩
        have hcut : cutD (PyData.int 0 :: r.map PyData.int) (some 1) none = r.map PyData.int := by
          rw [cut_one]; rfl
        unfold whileL
        rw [← h3]
        simp [mv, setOs, lim, targets, flats, tup, startE, slot, flatP, O.flat, share, frz, truthD, isiD, endO, isNone, ixD, slO, cmpO, binO, biO, intsOf, boolsOf, setT, setAll, rowOf, P.still, callD, callI, p__law_next_1, lk_left, hcut, putO, keyOf, ko_st, len_st, pf_left]
      · refine ⟨y :: r, Nat.le_refl _, .inr ⟨y, r, rfl⟩, ?_⟩
        unfold whileL
        simp [mv, setOs, lim, targets, flats, tup, startE, slot, flatP, O.flat, share, frz, truthD, isiD, endO, isNone, ixD, slO, cmpO, binO, biO, intsOf, boolsOf, setT, setAll, rowOf, P.still, callD, callI, lk_left, hy]
abbrev envN (c g : List Int) (s t : Int) (x2 x3 x4 x5 : Option O) : Env := [some (.dct (stK c g s)), some (.fz (.int t)), x2, x3, x4, x5]
section
variable (c g : List Int) (s t : Int) (x2 x3 x4 x5 : Option O)
theorem nx2 (hg : g.length < 1000) : ∃ g', g'.length ≤ g.length ∧ (g' = [] ∨ ∃ y r, g' = y :: r) ∧ evalS G__law_next 1 p__law_next_2 (envN c g s t x2 x3 x4 x5) = some (.nx (envN c g' s t x2 x3 x4 x5)) :=
  next_loop c s (some (.fz (.int t))) x2 x3 x4 x5 1000 g hg
theorem nx6n : evalS G__law_next 1 p__law_next_6 (envN c [] s t x2 x3 x4 x5) = some (.nx (envN c [] s t x2 x3 x4 x5)) := by
  simp [p__law_next_6, mv, setOs, lim, targets, flats, tup, startE, slot, flatP, O.flat, share, frz, truthD, isiD, endO, isNone, ixD, slO, cmpO, binO, biO, intsOf, boolsOf, setT, setAll, rowOf, P.still, callD, callI, lk_left]
theorem nx6c (y : Int) (r : List Int) (h0 : 0 < t) (h1 : t < 1073741824) : evalS G__law_next 1 p__law_next_6 (envN c (y :: r) s t x2 x3 x4 x5) = some (.ret (.fz (.int (y % t))) (envN c (y / t :: r) s t (some (.fz (.int y))) x3 x4 x5)) := by
  have hset : setAtI (PyData.int y :: r.map PyData.int) 0 (.int (y / t)) = some (PyData.int (y / t) :: r.map PyData.int) := by
    unfold setAtI ixN
    rw [if_pos (Int.le_refl 0), if_pos (by rw [List.length_cons]; omega)]
    rfl
  have hp := pf_left c (y :: r) (y / t :: r) s
  simp only [List.map_cons] at hp
  have dk : divOk t = true := divOk_of h0 h1
  simp [p__law_next_6, p__law_next_3, p__law_next_4, p__law_next_5, mv, setOs, lim, targets, flats, tup, startE, slot, flatP, O.flat, share, frz, truthD, isiD, endO, isNone, ixD, slO, cmpO, binO, biO, intsOf, boolsOf, setT, setAll, rowOf, P.still, callD, callI, lk_left, h0, dk, isPlf, putfO, ko_st, hset, hp]
theorem nx7 : evalS G__law_next 1 p__law_next_7 (envN c g s t x2 x3 x4 x5) = some (.nx (envN c g s t x2 (some (.fz (.int (s + 1)))) x4 x5)) := by
  simp [p__law_next_7, mv, setOs, lim, targets, flats, tup, startE, slot, flatP, O.flat, share, frz, truthD, isiD, endO, isNone, ixD, slO, cmpO, binO, biO, intsOf, boolsOf, setT, setAll, rowOf, P.still, callD, callI, lk_at]
theorem nx8 (k : Int) : evalS G__law_next 1 p__law_next_8 (envN c g s t x2 (some (.fz (.int k))) x4 x5) = some (.nx (envN c g k t x2 (some (.fz (.int k))) x4 x5)) := by
  simp [p__law_next_8, mv, setOs, lim, targets, flats, tup, startE, slot, flatP, O.flat, share, frz, truthD, isiD, endO, isNone, ixD, slO, cmpO, binO, biO, intsOf, boolsOf, setT, setAll, rowOf, P.still, callD, callI, putO, keyOf, ko_st, len_st, pf_at]
theorem nx9 (k : Int) (hk : 0 ≤ k) (hc : c.length ≤ 63) : ∃ v, evalS G__law_next 1 p__law_next_9 (envN c g s t x2 (some (.fz (.int k))) x4 x5) = some (.nx (envN c g s t x2 (some (.fz (.int k))) (some (.fz (.int v))) x5)) := by
  cases c with
  | nil => exact ⟨3, by simp [p__law_next_9, mv, setOs, lim, targets, flats, tup, startE, slot, flatP, O.flat, share, frz, truthD, isiD, endO, isNone, ixD, slO, cmpO, binO, biO, intsOf, boolsOf, setT, setAll, rowOf, P.still, callD, callI, lk_cells]⟩
  | cons y r =>
    have hl : (0 : Int) < ((y :: r).length : Int) := by rw [List.length_cons]; omega
    have hat := atI_ints (xs := y :: r) (i := k % ((y :: r).length : Int)) (Int.emod_nonneg _ (by omega)) (Int.emod_lt_of_pos _ hl)
    refine ⟨getI (y :: r) (k % ((y :: r).length : Int)), ?_⟩
    simp only [List.map_cons, List.length_cons] at hat hl
    simp at hat hl
    simp [p__law_next_9, mv, setOs, lim, targets, flats, tup, startE, slot, flatP, O.flat, share, frz, truthD, isiD, endO, isNone, ixD, slO, cmpO, binO, biO, intsOf, boolsOf, setT, setAll, rowOf, P.still, callD, callI, lk_cells, hl, hat]
theorem nx10 (k v : Int) (h0 : 0 ≤ k) (h1 : k ≤ 1000000) : ∃ m, evalS G__law_next 1 p__law_next_10 (envN c g s t x2 (some (.fz (.int k))) (some (.fz (.int v))) x5) = some (.nx (envN c g s t x2 (some (.fz (.int k))) (some (.fz (.int v))) (some (.fz (.int m))))) := by
  have s1 : smallI 7919 = true := smallI_of (by omega) (by omega)
  have s2 : smallI 19 = true := smallI_of (by omega) (by omega)
  have s3 : smallI k = true := smallI_of (by omega) (by omega)
  have s4 : smallI 48271 = true := smallI_of (by omega) (by omega)
  exact ⟨_, by simp [p__law_next_10, mv, setOs, lim, targets, flats, tup, startE, slot, flatP, O.flat, share, frz, truthD, isiD, endO, isNone, ixD, slO, cmpO, binO, biO, intsOf, boolsOf, setT, setAll, rowOf, P.still, callD, callI, s1, s2, s3, s4]; rfl⟩
theorem nx11 (k v m : Int) (h0 : 0 ≤ k) (h1 : k ≤ 1000000) : ∃ m', evalS G__law_next 1 p__law_next_11 (envN c g s t x2 (some (.fz (.int k))) x4 (some (.fz (.int m)))) = some (.nx (envN c g s t x2 (some (.fz (.int k))) x4 (some (.fz (.int m'))))) := by
  have s1 : smallI 104729 = true := smallI_of (by omega) (by omega)
  have s4 : smallI 69621 = true := smallI_of (by omega) (by omega)
  exact ⟨_, by simp [p__law_next_11, mv, setOs, lim, targets, flats, tup, startE, slot, flatP, O.flat, share, frz, truthD, isiD, endO, isNone, ixD, slO, cmpO, binO, biO, intsOf, boolsOf, setT, setAll, rowOf, P.still, callD, callI, s1, s4]; rfl⟩
theorem nx12 (m : Int) (h0 : 0 < t) : ∃ d, 0 ≤ d ∧ d < t ∧ evalS G__law_next 1 p__law_next_12 (envN c g s t x2 x3 x4 (some (.fz (.int m)))) = some (.ret (.fz (.int d)) (envN c g s t x2 x3 x4 (some (.fz (.int m))))) := by
  exact ⟨m % 2147483587 / 11 % t, Int.emod_nonneg _ (by omega), Int.emod_lt_of_pos _ h0, by
    have dk : divOk 11 = true := divOk_of (by omega) (by omega)
    simp [p__law_next_12, mv, setOs, lim, targets, flats, tup, startE, slot, flatP, O.flat, share, frz, truthD, isiD, endO, isNone, ixD, slO, cmpO, binO, biO, intsOf, boolsOf, setT, setAll, rowOf, P.still, callD, callI, h0, dk]⟩
end
/-- a draw -/
theorem ev_next (c g : List Int) (s t : Int) (hc : c.length ≤ 63) (hg : g.length ≤ 63) (s0 : 0 ≤ s) (s1 : s < 1000000) (t0 : 0 < t) (t1 : t < 1073741824) :
    ∃ d g' s', 0 ≤ d ∧ d < t ∧ g'.length ≤ g.length ∧ s ≤ s' ∧ s' ≤ s + 1 ∧ M__law_next (.dct (stK c g s)) [.int t] = some (.ok (.int d), .dct (stK c g' s')) := by
  obtain ⟨g', hl, hg', h2⟩ := nx2 c g s t none none none none (by omega)
  unfold M__law_next runIo b__law_next
  rw [show startE 6 (O.dct (stK c g s) :: [PyData.int t].map O.fz) = envN c g s t none none none none from rfl]
  rcases hg' with rfl | ⟨y, r, rfl⟩
  · obtain ⟨v, h6⟩ := nx9 c [] (s + 1) t none none none (s + 1) (by omega) hc
    obtain ⟨m, h7⟩ := nx10 c [] (s + 1) t none none (s + 1) v (by omega) (by omega)
    obtain ⟨m', h8⟩ := nx11 c [] (s + 1) t none (some (.fz (.int v))) (s + 1) v m (by omega) (by omega)
    obtain ⟨d, d0, d1, h9⟩ := nx12 c [] (s + 1) t none (some (.fz (.int (s + 1)))) (some (.fz (.int v))) m' t0
    refine ⟨d, [], s + 1, d0, d1, hl, by omega, by omega, ?_⟩
    rw [seq_nx h2, seq_nx (nx6n ..), seq_nx (nx7 ..), seq_nx (nx8 ..), seq_nx h6, seq_nx h7, seq_nx h8, seq_ret h9]
    rfl
  · refine ⟨y % t, y / t :: r, s, Int.emod_nonneg _ (by omega), Int.emod_lt_of_pos _ t0, hl, Int.le_refl _, by omega, ?_⟩
    rw [seq_nx h2, seq_ret (nx6c c s t none none none none y r t0 t1)]
    rfl
/-- the machine at k draws or less -/
structure Mach (k : Nat) (c g : List Int) (s : Int) : Prop where
  cl : c.length ≤ 63
  gl : g.length ≤ 63
  s0 : 0 ≤ s
  s1 : s ≤ (k : Int)
theorem Mach.mono {k k' : Nat} {c g : List Int} {s : Int} (h : Mach k c g s) (hk : k ≤ k') : Mach k' c g s := ⟨h.cl, h.gl, h.s0, by have := h.s1; omega⟩
/-- a draw, as a natural number -/
theorem Mach.draw {k : Nat} {c g : List Int} {s : Int} (h : Mach k c g s) (hk : k < 1000000) {t : Int} (t0 : 0 < t) (t1 : t < 1073741824) :
    ∃ (d : Nat) (g' : List Int) (s' : Int), (d : Int) < t ∧ Mach (k + 1) c g' s' ∧ M__law_next (.dct (stK c g s)) [.int t] = some (.ok (.int (d : Int)), .dct (stK c g' s')) := by
  obtain ⟨d, g', s', d0, d1, hl, h1, h2, e⟩ := ev_next c g s t h.cl h.gl h.s0 (by have := h.s1; omega) (by omega) (by omega)
  obtain ⟨d', rfl⟩ := Int.eq_ofNat_of_zero_le d0
  exact ⟨d', g', s', d1, ⟨h.cl, Nat.le_trans hl h.gl, by have := h.s0; omega, by have := h.s1; omega⟩, e⟩
end NW
end
section
set_option Elab.async false
set_option linter.all false
set_option maxRecDepth 100000
set_option maxHeartbeats 2000000
namespace NW
open PySem L2
/-! drawn languages -/
def rlAt : Nat → Rl
  | 0 => .on | 1 => .off | 2 => .quiet | _ => .other
theorem at_rl {d : Nat} (h : (d : Int) < 4) : atI [PyData.str "on", .str "off", .str "quiet", .str "other"] (d : Int) = some (.str (rlAt d).s) := by
  have : d = 0 ∨ d = 1 ∨ d = 2 ∨ d = 3 := by omega
  rcases this with rfl | rfl | rfl | rfl <;> rfl
theorem tongue_turn {k : Nat} {c g : List Int} {s : Int} (M : Mach k c g s) (hk : k + 10 < 1000000) (d : D) (x1 x2 x4 x5 x6 : Option O) (fd : List (Rl × Nat)) (hf : fd.length ≤ 1000) :
    ∃ r g' s' x4' x5' x6', rowOk r ∧ Mach (k + 2) c g' s' ∧ bodyF (setT (.name 4)) (evalSs G__law_tongue 1 p__law_tongue_5) d [some (.dct (stK c g s)), x1, x2, some (.lst (fd.map hd)), x4, x5, x6] =
      some (.nx [some (.dct (stK c g' s')), x1, x2, some (.lst ((fd ++ [r]).map hd)), x4', x5', x6']) := by
  obtain ⟨d1, g1, s1, l1, M1, e1⟩ := M.draw (t := 4) (by omega) (by omega) (by omega)
  have hat := at_rl l1
  have hf' : fd.length < 16777216 := by omega
  generalize hr : rlAt d1 = r at hat
  by_cases ha : r = .on ∨ r = .off
  · obtain ⟨d2, g2, s2, l2, M2, e2⟩ := M1.draw (t := 2) (by omega) (by omega) (by omega)
    refine ⟨(r, 1 + d2), g2, s2, some (.fz d), some (.fz (.str r.s)), some (.fz (.int 1)), ⟨by simp only; omega, fun _ => by simp only; omega⟩, M2, ?_⟩
    simp [bodyF, p__law_tongue_5, p__law_tongue_2, p__law_tongue_3, p__law_tongue_4, f__law_tongue___law_next, mv, setOs, lim, targets, flats, tup, startE, slot, flatP, O.flat, share, frz, endO, intsOf, boolsOf, setAll, P.still, callD, callI, e_ixt, e_ixl, e_isi_int_none, e_isi_int_bool, e_isi_int_int, e_isi_int_str, e_isi_int_list, e_isi_int_tuple, e_isi_int_dict, e_isi_bool_none, e_isi_bool_bool, e_isi_bool_int, e_isi_bool_str, e_isi_bool_list, e_isi_bool_tuple, e_isi_bool_dict, e_isi_str_none, e_isi_str_bool, e_isi_str_int, e_isi_str_str, e_isi_str_list, e_isi_str_tuple, e_isi_str_dict, e_isi_tuple_none, e_isi_tuple_bool, e_isi_tuple_int, e_isi_tuple_str, e_isi_tuple_list, e_isi_tuple_tuple, e_isi_tuple_dict, e_isi_list_none, e_isi_list_bool, e_isi_list_int, e_isi_list_str, e_isi_list_list, e_isi_list_tuple, e_isi_list_dict, e_isi_dict_none, e_isi_dict_bool, e_isi_dict_int, e_isi_dict_str, e_isi_dict_list, e_isi_dict_tuple, e_isi_dict_dict, e_isN_none, e_isN_bool, e_isN_int, e_isN_str, e_isN_list, e_isN_tuple, e_isN_dict, e_tr_none, e_tr_bool, e_tr_int, e_tr_tuple, e_tr_list, e_row_tuple, e_row_list, e_sl_tuple, e_sl_list, e_set_name, e_set_tup, e_eq_ss, e_ne_ss, e_eqa_none, e_eqb_none, e_nea_none, e_neb_none, e_eqa_bool, e_eqb_bool, e_nea_bool, e_neb_bool, e_eqa_int, e_eqb_int, e_nea_int, e_neb_int, e_eqa_list, e_eqb_list, e_nea_list, e_neb_list, e_eqa_tuple, e_eqb_tuple, e_nea_tuple, e_neb_tuple, e_eqa_dict, e_eqb_dict, e_nea_dict, e_neb_dict, e_lt, e_le, e_gt, e_ge, e_isin, e_notin, e_is, e_isnt, e_add_ii, e_add_ss, e_add_tt, e_add_ll, e_sub_ii, e_mul_ii, e_mul_ti, e_mul_li, e_fdiv_ii, e_mod_ii, e_pow_ii, e_len_t, e_len_l, e_int_i, e_int_b, e_max_ii, e_min_ii, e_max_l, e_min_l, e_max_t, e_min_t, e_sum_l, e_sum_t, e_all_l, e_any_l, e_tuple_l, e_tuple_t, e_list_l, e_list_t, e_repr_d, e_divmod_ii, e_sorted_l, e_aug_add, e_aug_sub, e1, e2, hat, has_oo, ha, isLst, appO, hf', hd]
  · obtain ⟨d2, g2, s2, l2, M2, e2⟩ := M1.draw (t := 3) (by omega) (by omega) (by omega)
    refine ⟨(r, d2), g2, s2, some (.fz d), some (.fz (.str r.s)), some (.fz (.int 0)), ⟨by simp only; omega, fun h => absurd h ha⟩, M2, ?_⟩
    simp [bodyF, p__law_tongue_5, p__law_tongue_2, p__law_tongue_3, p__law_tongue_4, f__law_tongue___law_next, mv, setOs, lim, targets, flats, tup, startE, slot, flatP, O.flat, share, frz, endO, intsOf, boolsOf, setAll, P.still, callD, callI, e_ixt, e_ixl, e_isi_int_none, e_isi_int_bool, e_isi_int_int, e_isi_int_str, e_isi_int_list, e_isi_int_tuple, e_isi_int_dict, e_isi_bool_none, e_isi_bool_bool, e_isi_bool_int, e_isi_bool_str, e_isi_bool_list, e_isi_bool_tuple, e_isi_bool_dict, e_isi_str_none, e_isi_str_bool, e_isi_str_int, e_isi_str_str, e_isi_str_list, e_isi_str_tuple, e_isi_str_dict, e_isi_tuple_none, e_isi_tuple_bool, e_isi_tuple_int, e_isi_tuple_str, e_isi_tuple_list, e_isi_tuple_tuple, e_isi_tuple_dict, e_isi_list_none, e_isi_list_bool, e_isi_list_int, e_isi_list_str, e_isi_list_list, e_isi_list_tuple, e_isi_list_dict, e_isi_dict_none, e_isi_dict_bool, e_isi_dict_int, e_isi_dict_str, e_isi_dict_list, e_isi_dict_tuple, e_isi_dict_dict, e_isN_none, e_isN_bool, e_isN_int, e_isN_str, e_isN_list, e_isN_tuple, e_isN_dict, e_tr_none, e_tr_bool, e_tr_int, e_tr_tuple, e_tr_list, e_row_tuple, e_row_list, e_sl_tuple, e_sl_list, e_set_name, e_set_tup, e_eq_ss, e_ne_ss, e_eqa_none, e_eqb_none, e_nea_none, e_neb_none, e_eqa_bool, e_eqb_bool, e_nea_bool, e_neb_bool, e_eqa_int, e_eqb_int, e_nea_int, e_neb_int, e_eqa_list, e_eqb_list, e_nea_list, e_neb_list, e_eqa_tuple, e_eqb_tuple, e_nea_tuple, e_neb_tuple, e_eqa_dict, e_eqb_dict, e_nea_dict, e_neb_dict, e_lt, e_le, e_gt, e_ge, e_isin, e_notin, e_is, e_isnt, e_add_ii, e_add_ss, e_add_tt, e_add_ll, e_sub_ii, e_mul_ii, e_mul_ti, e_mul_li, e_fdiv_ii, e_mod_ii, e_pow_ii, e_len_t, e_len_l, e_int_i, e_int_b, e_max_ii, e_min_ii, e_max_l, e_min_l, e_max_t, e_min_t, e_sum_l, e_sum_t, e_all_l, e_any_l, e_tuple_l, e_tuple_t, e_list_l, e_list_t, e_repr_d, e_divmod_ii, e_sorted_l, e_aug_add, e_aug_sub, e1, e2, hat, has_oo, ha, isLst, appO, hf', hd]
theorem tongue_turns {c : List Int} (x1 x2 : Option O) : ∀ (items : List D) {k : Nat} {g : List Int} {s : Int} (x4 x5 x6 : Option O) (fd : List (Rl × Nat)), Mach k c g s → k + 10 * items.length < 900000 → fd.length + items.length ≤ 100 → (∀ r ∈ fd, rowOk r) →
    ∃ (hs : Hs) (g' : List Int) (s' : Int) (x4' x5' x6' : Option O), (∀ r ∈ hs, rowOk r) ∧ hs.length = fd.length + items.length ∧ Mach (k + 2 * items.length) c g' s' ∧ forL (bodyF (setT (.name 4)) (evalSs G__law_tongue 1 p__law_tongue_5)) items [some (.dct (stK c g s)), x1, x2, some (.lst (fd.map hd)), x4, x5, x6] =
      some (.nx [some (.dct (stK c g' s')), x1, x2, some (.lst (hs.map hd)), x4', x5', x6'])
  | [], k, g, s, x4, x5, x6, fd, M, hk, hf, hr => ⟨fd, g, s, x4, x5, x6, hr, rfl, M, rfl⟩
  | d :: ds, k, g, s, x4, x5, x6, fd, M, hk, hf, hr => by
    rw [List.length_cons] at hk hf
    obtain ⟨r, g1, s1, y4, y5, y6, h1, M1, e1⟩ := tongue_turn M (by omega) d x1 x2 x4 x5 x6 fd (by omega)
    obtain ⟨hs, g2, s2, z4, z5, z6, h2, hl, M2, e2⟩ := tongue_turns x1 x2 ds y4 y5 y6 (fd ++ [r]) M1 (by omega) (by rw [List.length_append]; simp; omega) (fun x hx => by
      rcases List.mem_append.mp hx with z | z
      · exact hr x z
      · rw [List.mem_singleton] at z; subst z; exact h1)
    refine ⟨hs, g2, s2, z4, z5, z6, h2, by rw [hl, List.length_append, List.length_cons]; simp; omega, by rw [List.length_cons]; exact M2.mono (by omega), ?_⟩
    unfold forL
    rw [e1]
    exact e2
theorem ev_tongue {k : Nat} {c g : List Int} {s : Int} (M : Mach k c g s) (hk : k + 100 < 800000) {T NN : Int} (hT0 : 1 ≤ T) (hT : T ≤ 4) (hN0 : 1 ≤ NN) (hN : NN ≤ 4) :
    ∃ (hs : Hs) (n m : Nat) (g' : List Int) (s' : Int), LOk hs n m ∧ Mach (k + 20) c g' s' ∧ M__law_tongue (.dct (stK c g s)) [.int T, .int NN] = some (.ok (lang hs n m), .dct (stK c g' s')) := by
  obtain ⟨d1, g1, s1, l1, M1, e1⟩ := M.draw (t := T) (by omega) (by omega) (by omega)
  obtain ⟨hs, g2, s2, y4, y5, y6, hr, hl, M2, e2⟩ := tongue_turns (some (.fz (.int T))) (some (.fz (.int NN))) (rangeD 0 (1 + d1)) none none none [] M1 (by rw [rangeD_length]; omega) (by rw [rangeD_length]; simp; omega) (fun r hr => nomatch hr)
  rw [rangeD_length] at hl M2
  obtain ⟨d3, g3, s3, l3, M3, e3⟩ := M2.draw (t := NN) (by omega) (by omega) (by omega)
  obtain ⟨d4, g4, s4, l4, M4, e4⟩ := M3.draw (t := 3) (by omega) (by omega) (by omega)
  have q : rngOk (1 + (d1 : Int)) = true := rngOk_of (by omega) (by omega)
  have hn : (1 + (d1 : Int)).toNat = 1 + d1 := by omega
  simp only [List.length_nil, Nat.zero_add] at hl
  refine ⟨hs, 1 + d3, d4, g4, s4, ⟨by omega, by omega, hr, by omega, by omega, by omega⟩, M4.mono (by omega), ?_⟩
  rw [show lang hs (1 + d3) d4 = .tuple [.tuple (hs.map hd), .int ((1 + d3 : Nat) : Int), .int (d4 : Nat)] from rfl]
  simp only [List.map_nil] at e2
  unfold M__law_tongue
  simp [runPure, runIo, runMk, b__law_tongue, p__law_tongue_1, p__law_tongue_2, p__law_tongue_3, p__law_tongue_4, p__law_tongue_6, p__law_tongue_7, f__law_tongue___law_next, mv, setOs, lim, targets, flats, tup, startE, slot, flatP, O.flat, share, frz, endO, intsOf, boolsOf, setAll, P.still, callD, callI, e_ixt, e_ixl, e_isi_int_none, e_isi_int_bool, e_isi_int_int, e_isi_int_str, e_isi_int_list, e_isi_int_tuple, e_isi_int_dict, e_isi_bool_none, e_isi_bool_bool, e_isi_bool_int, e_isi_bool_str, e_isi_bool_list, e_isi_bool_tuple, e_isi_bool_dict, e_isi_str_none, e_isi_str_bool, e_isi_str_int, e_isi_str_str, e_isi_str_list, e_isi_str_tuple, e_isi_str_dict, e_isi_tuple_none, e_isi_tuple_bool, e_isi_tuple_int, e_isi_tuple_str, e_isi_tuple_list, e_isi_tuple_tuple, e_isi_tuple_dict, e_isi_list_none, e_isi_list_bool, e_isi_list_int, e_isi_list_str, e_isi_list_list, e_isi_list_tuple, e_isi_list_dict, e_isi_dict_none, e_isi_dict_bool, e_isi_dict_int, e_isi_dict_str, e_isi_dict_list, e_isi_dict_tuple, e_isi_dict_dict, e_isN_none, e_isN_bool, e_isN_int, e_isN_str, e_isN_list, e_isN_tuple, e_isN_dict, e_tr_none, e_tr_bool, e_tr_int, e_tr_tuple, e_tr_list, e_row_tuple, e_row_list, e_sl_tuple, e_sl_list, e_set_name, e_set_tup, e_eq_ss, e_ne_ss, e_eqa_none, e_eqb_none, e_nea_none, e_neb_none, e_eqa_bool, e_eqb_bool, e_nea_bool, e_neb_bool, e_eqa_int, e_eqb_int, e_nea_int, e_neb_int, e_eqa_list, e_eqb_list, e_nea_list, e_neb_list, e_eqa_tuple, e_eqb_tuple, e_nea_tuple, e_neb_tuple, e_eqa_dict, e_eqb_dict, e_nea_dict, e_neb_dict, e_lt, e_le, e_gt, e_ge, e_isin, e_notin, e_is, e_isnt, e_add_ii, e_add_ss, e_add_tt, e_add_ll, e_sub_ii, e_mul_ii, e_mul_ti, e_mul_li, e_fdiv_ii, e_mod_ii, e_pow_ii, e_len_t, e_len_l, e_int_i, e_int_b, e_max_ii, e_min_ii, e_max_l, e_min_l, e_max_t, e_min_t, e_sum_l, e_sum_t, e_all_l, e_any_l, e_tuple_l, e_tuple_t, e_list_l, e_list_t, e_repr_d, e_divmod_ii, e_sorted_l, e_aug_add, e_aug_sub, e1, q, hn, targets, e2, e3, e4]
/-! drawn streams -/
theorem line_turn {hs : Hs} {n m : Nat} (L : LOk hs n m) {k : Nat} {c g : List Int} {s : Int} (M : Mach k c g s) (hk : k + 10 < 1000000) (d : D) (x2 x4 x5 x6 x7 : Option O) (fd : List Sg) (hf : fd.length ≤ 1000) :
    ∃ r g' s' x4' x5' x6' x7', sgOk hs n m r ∧ Mach (k + 2) c g' s' ∧ bodyF (setT (.name 4)) (evalSs G__law_line 1 p__law_line_5) d [some (.dct (stK c g s)), some (.fz (lang hs n m)), x2, some (.lst (fd.map Sg.d)), x4, x5, x6, x7] =
      some (.nx [some (.dct (stK c g' s')), some (.fz (lang hs n m)), x2, some (.lst ((fd ++ [r]).map Sg.d)), x4', x5', x6', x7']) := by
  have hmin : (if (1 : Int) < (m : Int) then 1 else (m : Int)) = ((min m 1 : Nat) : Int) := by split <;> omega
  have a1 := L.h1
  have a4 := L.h4
  have b1 := L.n1
  have b4 := L.n4
  have c2 := L.m2
  generalize hq : min m 1 = q at hmin
  obtain ⟨d1, g1, s1, l1, M1, e1⟩ := M.draw (t := 3 + (q : Int)) (by omega) (by omega) (by omega)
  have hf' : fd.length < 16777216 := by omega
  have step : ∀ (w : Str) (t : Nat) (mk : Nat → Sg), (∀ x, x < t → sgOk hs n m (mk x)) → (∀ x : Nat, (mk x).d = .tuple [.str w, .int (x : Nat)]) → 0 < t → t ≤ 4 → atI [PyData.tuple [.str "head", .int (hs.length : Nat)], .tuple [.str "value", .int (n : Nat)], .tuple [.str "value", .int (n : Nat)], .tuple [.str "moment", .int (m : Nat)]] (d1 : Int) = some (.tuple [.str w, .int (t : Nat)]) →
      ∃ r g' s' x4' x5' x6' x7', sgOk hs n m r ∧ Mach (k + 2) c g' s' ∧ bodyF (setT (.name 4)) (evalSs G__law_line 1 p__law_line_5) d [some (.dct (stK c g s)), some (.fz (lang hs n m)), x2, some (.lst (fd.map Sg.d)), x4, x5, x6, x7] =
      some (.nx [some (.dct (stK c g' s')), some (.fz (lang hs n m)), x2, some (.lst ((fd ++ [r]).map Sg.d)), x4', x5', x6', x7']) := fun w t mk hok hd ht ht4 hat => by
    obtain ⟨d2, g2, s2, l2, M2, e2⟩ := M1.draw (t := (t : Int)) (by omega) (by omega) (by omega)
    refine ⟨mk d2, g2, s2, some (.fz d), some (.lst [PyData.tuple [.str "head", .int (hs.length : Nat)], .tuple [.str "value", .int (n : Nat)], .tuple [.str "value", .int (n : Nat)], .tuple [.str "moment", .int (m : Nat)]]), some (.fz (.str w)), some (.fz (.int (t : Nat))), hok d2 (by omega), M2, ?_⟩
    rw [List.map_append, List.map_cons, List.map_nil, hd]
    simp [bodyF, p__law_line_5, p__law_line_2, p__law_line_3, p__law_line_4, f__law_line___law_next, mv, setOs, lim, targets, flats, tup, startE, slot, flatP, O.flat, share, frz, endO, intsOf, boolsOf, setAll, P.still, callD, callI, e_ixt, e_ixl, e_isi_int_none, e_isi_int_bool, e_isi_int_int, e_isi_int_str, e_isi_int_list, e_isi_int_tuple, e_isi_int_dict, e_isi_bool_none, e_isi_bool_bool, e_isi_bool_int, e_isi_bool_str, e_isi_bool_list, e_isi_bool_tuple, e_isi_bool_dict, e_isi_str_none, e_isi_str_bool, e_isi_str_int, e_isi_str_str, e_isi_str_list, e_isi_str_tuple, e_isi_str_dict, e_isi_tuple_none, e_isi_tuple_bool, e_isi_tuple_int, e_isi_tuple_str, e_isi_tuple_list, e_isi_tuple_tuple, e_isi_tuple_dict, e_isi_list_none, e_isi_list_bool, e_isi_list_int, e_isi_list_str, e_isi_list_list, e_isi_list_tuple, e_isi_list_dict, e_isi_dict_none, e_isi_dict_bool, e_isi_dict_int, e_isi_dict_str, e_isi_dict_list, e_isi_dict_tuple, e_isi_dict_dict, e_isN_none, e_isN_bool, e_isN_int, e_isN_str, e_isN_list, e_isN_tuple, e_isN_dict, e_tr_none, e_tr_bool, e_tr_int, e_tr_tuple, e_tr_list, e_row_tuple, e_row_list, e_sl_tuple, e_sl_list, e_set_name, e_set_tup, e_eq_ss, e_ne_ss, e_eqa_none, e_eqb_none, e_nea_none, e_neb_none, e_eqa_bool, e_eqb_bool, e_nea_bool, e_neb_bool, e_eqa_int, e_eqb_int, e_nea_int, e_neb_int, e_eqa_list, e_eqb_list, e_nea_list, e_neb_list, e_eqa_tuple, e_eqb_tuple, e_nea_tuple, e_neb_tuple, e_eqa_dict, e_eqb_dict, e_nea_dict, e_neb_dict, e_lt, e_le, e_gt, e_ge, e_isin, e_notin, e_is, e_isnt, e_add_ii, e_add_ss, e_add_tt, e_add_ll, e_sub_ii, e_mul_ii, e_mul_ti, e_mul_li, e_fdiv_ii, e_mod_ii, e_pow_ii, e_len_t, e_len_l, e_int_i, e_int_b, e_max_ii, e_min_ii, e_max_l, e_min_l, e_max_t, e_min_t, e_sum_l, e_sum_t, e_all_l, e_any_l, e_tuple_l, e_tuple_t, e_list_l, e_list_t, e_repr_d, e_divmod_ii, e_sorted_l, e_aug_add, e_aug_sub, hmin, e1, hat, e2, isLst, appO, hf']
  have hd1 : d1 = 0 ∨ d1 = 1 ∨ d1 = 2 ∨ d1 = 3 := by omega
  rcases hd1 with rfl | rfl | rfl | rfl
  · exact step "head" hs.length .head (fun x hx => hx) (fun _ => rfl) (by omega) (by omega) rfl
  · exact step "value" n .value (fun x hx => hx) (fun _ => rfl) (by omega) (by omega) rfl
  · exact step "value" n .value (fun x hx => hx) (fun _ => rfl) (by omega) (by omega) rfl
  · exact step "moment" m .moment (fun x hx => hx) (fun _ => rfl) (by omega) (by omega) rfl
theorem line_turns {hs : Hs} {n m : Nat} (L : LOk hs n m) {c : List Int} (x2 : Option O) : ∀ (items : List D) {k : Nat} {g : List Int} {s : Int} (x4 x5 x6 x7 : Option O) (fd : List Sg), Mach k c g s → k + 10 * items.length < 900000 → fd.length + items.length ≤ 100 → (∀ r ∈ fd, sgOk hs n m r) →
    ∃ (ss : List Sg) (g' : List Int) (s' : Int) (x4' x5' x6' x7' : Option O), (∀ r ∈ ss, sgOk hs n m r) ∧ ss.length = fd.length + items.length ∧ Mach (k + 2 * items.length) c g' s' ∧ forL (bodyF (setT (.name 4)) (evalSs G__law_line 1 p__law_line_5)) items [some (.dct (stK c g s)), some (.fz (lang hs n m)), x2, some (.lst (fd.map Sg.d)), x4, x5, x6, x7] =
      some (.nx [some (.dct (stK c g' s')), some (.fz (lang hs n m)), x2, some (.lst (ss.map Sg.d)), x4', x5', x6', x7'])
  | [], k, g, s, x4, x5, x6, x7, fd, M, hk, hf, hr => ⟨fd, g, s, x4, x5, x6, x7, hr, rfl, M, rfl⟩
  | d :: ds, k, g, s, x4, x5, x6, x7, fd, M, hk, hf, hr => by
    rw [List.length_cons] at hk hf
    obtain ⟨r, g1, s1, y4, y5, y6, y7, h1, M1, e1⟩ := line_turn L M (by omega) d x2 x4 x5 x6 x7 fd (by omega)
    obtain ⟨ss, g2, s2, z4, z5, z6, z7, h2, hl, M2, e2⟩ := line_turns L x2 ds y4 y5 y6 y7 (fd ++ [r]) M1 (by omega) (by rw [List.length_append]; simp; omega) (fun x hx => by
      rcases List.mem_append.mp hx with z | z
      · exact hr x z
      · rw [List.mem_singleton] at z; subst z; exact h1)
    refine ⟨ss, g2, s2, z4, z5, z6, z7, h2, by rw [hl, List.length_append, List.length_cons]; simp; omega, by rw [List.length_cons]; exact M2.mono (by omega), ?_⟩
    unfold forL
    rw [e1]
    exact e2
theorem ev_line {hs : Hs} {n m : Nat} (L : LOk hs n m) {k : Nat} {c g : List Int} {s : Int} (M : Mach k c g s) (hk : k + 1000 < 800000) {T : Nat} (hT : T ≤ 40) :
    ∃ (ss : List Sg) (g' : List Int) (s' : Int), (∀ r ∈ ss, sgOk hs n m r) ∧ ss.length ≤ T ∧ Mach (k + 100) c g' s' ∧ M__law_line (.dct (stK c g s)) [lang hs n m, .int (T : Nat)] = some (.ok (.tuple (ss.map Sg.d)), .dct (stK c g' s')) := by
  obtain ⟨d1, g1, s1, l1, M1, e1⟩ := M.draw (t := (T : Int) + 1) (by omega) (by omega) (by omega)
  obtain ⟨ss, g2, s2, y4, y5, y6, y7, hr, hl, M2, e2⟩ := line_turns L (some (.fz (.int (T : Nat)))) (rangeD 0 d1) none none none none [] M1 (by rw [rangeD_length]; omega) (by rw [rangeD_length]; simp; omega) (fun r hr => nomatch hr)
  rw [rangeD_length] at hl M2
  have q : rngOk (d1 : Int) = true := rngOk_of (by omega) (by omega)
  simp only [List.length_nil, Nat.zero_add] at hl
  refine ⟨ss, g2, s2, hr, by omega, M2.mono (by omega), ?_⟩
  simp only [List.map_nil] at e2
  unfold M__law_line
  simp [runPure, runIo, runMk, b__law_line, p__law_line_1, p__law_line_2, p__law_line_3, p__law_line_4, p__law_line_6, p__law_line_7, f__law_line___law_next, mv, setOs, lim, targets, flats, tup, startE, slot, flatP, O.flat, share, frz, endO, intsOf, boolsOf, setAll, P.still, callD, callI, e_ixt, e_ixl, e_isi_int_none, e_isi_int_bool, e_isi_int_int, e_isi_int_str, e_isi_int_list, e_isi_int_tuple, e_isi_int_dict, e_isi_bool_none, e_isi_bool_bool, e_isi_bool_int, e_isi_bool_str, e_isi_bool_list, e_isi_bool_tuple, e_isi_bool_dict, e_isi_str_none, e_isi_str_bool, e_isi_str_int, e_isi_str_str, e_isi_str_list, e_isi_str_tuple, e_isi_str_dict, e_isi_tuple_none, e_isi_tuple_bool, e_isi_tuple_int, e_isi_tuple_str, e_isi_tuple_list, e_isi_tuple_tuple, e_isi_tuple_dict, e_isi_list_none, e_isi_list_bool, e_isi_list_int, e_isi_list_str, e_isi_list_list, e_isi_list_tuple, e_isi_list_dict, e_isi_dict_none, e_isi_dict_bool, e_isi_dict_int, e_isi_dict_str, e_isi_dict_list, e_isi_dict_tuple, e_isi_dict_dict, e_isN_none, e_isN_bool, e_isN_int, e_isN_str, e_isN_list, e_isN_tuple, e_isN_dict, e_tr_none, e_tr_bool, e_tr_int, e_tr_tuple, e_tr_list, e_row_tuple, e_row_list, e_sl_tuple, e_sl_list, e_set_name, e_set_tup, e_eq_ss, e_ne_ss, e_eqa_none, e_eqb_none, e_nea_none, e_neb_none, e_eqa_bool, e_eqb_bool, e_nea_bool, e_neb_bool, e_eqa_int, e_eqb_int, e_nea_int, e_neb_int, e_eqa_list, e_eqb_list, e_nea_list, e_neb_list, e_eqa_tuple, e_eqb_tuple, e_nea_tuple, e_neb_tuple, e_eqa_dict, e_eqb_dict, e_nea_dict, e_neb_dict, e_lt, e_le, e_gt, e_ge, e_isin, e_notin, e_is, e_isnt, e_add_ii, e_add_ss, e_add_tt, e_add_ll, e_sub_ii, e_mul_ii, e_mul_ti, e_mul_li, e_fdiv_ii, e_mod_ii, e_pow_ii, e_len_t, e_len_l, e_int_i, e_int_b, e_max_ii, e_min_ii, e_max_l, e_min_l, e_max_t, e_min_t, e_sum_l, e_sum_t, e_all_l, e_any_l, e_tuple_l, e_tuple_t, e_list_l, e_list_t, e_repr_d, e_divmod_ii, e_sorted_l, e_aug_add, e_aug_sub, e1, q, targets, e2]
end NW
end
section
set_option Elab.async false
set_option linter.all false
set_option maxRecDepth 100000
set_option maxHeartbeats 2000000
namespace NW
open PySem L2
/-! where a stream leads each standing -/
theorem hD_inj {a b : Option Nat} (h : hD a = hD b) : a = b := by
  cases a <;> cases b <;> simp [hD] at h ⊢ <;> first | omega | exact h
theorem ints_inj : ∀ {a b : List Int}, a.map PyData.int = b.map PyData.int → a = b
  | [], [], _ => rfl
  | [], _ :: _, h => by simp at h
  | _ :: _, [], h => by simp at h
  | x :: a, y :: b, h => by
    rw [List.map_cons, List.map_cons] at h
    injection h with h1 h2
    injection h1 with h1
    rw [h1, ints_inj h2]
theorem stD_inj {p q : Plc} {on on' : List Int} (h : stD p on = stD q on') : p = q ∧ on = on' := by
  unfold stD at h
  injection h with h
  simp only [List.cons.injEq, and_true] at h
  obtain ⟨h1, h2, h3⟩ := h
  injection h2 with h2
  injection h3 with h3
  exact ⟨Prod.ext (hD_inj h1) (ints_inj h2), ints_inj h3⟩
noncomputable def endD (hs : Hs) (ss : List Sg) (d : D) : D := by
  classical exact if h : ∃ z : Plc × List Int, d = stD z.1 z.2 then stD (rd hs (Classical.choose h).1 (Classical.choose h).2 ss).1.1 (rd hs (Classical.choose h).1 (Classical.choose h).2 ss).1.2 else .none
theorem end_st (hs : Hs) (ss : List Sg) (p : Plc) (on : List Int) : endD hs ss (stD p on) = stD (rd hs p on ss).1.1 (rd hs p on ss).1.2 := by
  have h : ∃ z : Plc × List Int, stD p on = stD z.1 z.2 := ⟨(p, on), rfl⟩
  unfold endD
  rw [dif_pos h]
  obtain ⟨h1, h2⟩ := stD_inj (Classical.choose_spec h)
  rw [← h1, ← h2]
section
variable {hs : Hs} {n m : Nat}
theorem stsS_ok (L : LOk hs n m) {d : D} (h : d ∈ stsS hs n) : ∃ p on, d = stD p on ∧ plOk hs n p ∧ onOk n on := sts_mem L (stsS_mem.mp h)
theorem ev_so (L : LOk hs n m) {d : D} (hd : d ∈ stsS hs n) {ss : List Sg} (h : ∀ s ∈ ss, sgOk hs n m s) (hl : ss.length ≤ 1000) : ∃ H, M_read_so [lang hs n m, d, .tuple (ss.map Sg.d)] = some (.ok (.tuple [endD hs ss d, H])) := by
  obtain ⟨p, on, rfl, hp, ho⟩ := stsS_ok L hd
  rw [end_st]
  exact ⟨_, ev_read_so L hp ho h hl⟩
theorem ev_lr (L : LOk hs n m) {d : D} (hd : d ∈ stsS hs n) {ss : List Sg} (h : ∀ s ∈ ss, sgOk hs n m s) (hl : ss.length ≤ 1000) : ∃ H, M__law_read [lang hs n m, d, .tuple (ss.map Sg.d)] = some (.ok (.tuple [endD hs ss d, H])) := by
  obtain ⟨p, on, rfl, hp, ho⟩ := stsS_ok L hd
  rw [end_st]
  exact ⟨_, ev_law_read L hp ho h hl⟩
theorem end_ok (L : LOk hs n m) {d : D} (hd : d ∈ stsS hs n) {ss : List Sg} (h : ∀ s ∈ ss, sgOk hs n m s) : ∃ p on, endD hs ss d = stD p on ∧ plOk hs n p ∧ onOk n on := by
  obtain ⟨p, on, rfl, hp, ho⟩ := stsS_ok L hd
  rw [end_st]
  obtain ⟨a, b, c, e⟩ := rd_ok L ss hp ho h
  exact ⟨_, _, rfl, a, b⟩
theorem fine_end (L : LOk hs n m) {d : D} (hd : d ∈ stsS hs n) {ss : List Sg} (h : ∀ s ∈ ss, sgOk hs n m s) : Fine 2 900 (endD hs ss d) := by
  obtain ⟨p, on, e, hp, ho⟩ := end_ok L hd h
  rw [e]; exact fine_st L hp ho
noncomputable def dif (hs : Hs) (ss tt : List Sg) (d : D) : Bool := !(PyData.eqv (endD hs ss d) (endD hs tt d))
theorem eq_end (L : LOk hs n m) {d : D} (hd : d ∈ stsS hs n) {ss tt : List Sg} (h : ∀ s ∈ ss, sgOk hs n m s) (h' : ∀ s ∈ tt, sgOk hs n m s) : cmpO .ne (endD hs ss d) (endD hs tt d) = some (dif hs ss tt d) := by
  have h1 := (fine_end L hd h).shaped (by omega)
  have h2 := (fine_end L hd h').shaped (by omega)
  obtain ⟨p, on, e, hp, ho⟩ := end_ok L hd h
  have : cmpO .ne (endD hs ss d) (endD hs tt d) = (eqD (endD hs ss d) (endD hs tt d)).map (!·) := by rw [e]; rfl
  rw [this]
  unfold eqD dif
  rw [h1, h2]; rfl
/-! keys -/
theorem nkeys_ints : ∀ xs : List Int, nkeys (xs.map PyData.int) = some (xs.map NestedKey.num)
  | [] => rfl
  | x :: xs => by
    rw [List.map_cons, List.map_cons]
    simp only [nkeys, nkey, nkeys_ints xs]
theorem depth_nums : ∀ xs : List Int, NestedKey.depthAll (xs.map NestedKey.num) = 0
  | [] => rfl
  | x :: xs => by
    rw [List.map_cons]
    simp only [NestedKey.depthAll, NestedKey.depth, depth_nums xs]
    rfl
theorem nkey_st (p : Plc) (on : List Int) : ∃ i : Int, hD p.1 = .int i ∧ nkey (stD p on) = some (.tup [.num i, .tup (p.2.map .num), .tup (on.map .num)]) := by
  obtain ⟨i, e⟩ := hD_int p.1
  refine ⟨i, e, ?_⟩
  unfold stD
  rw [e]
  simp only [nkey, nkeys, tup, nkeys_ints, Option.map_some]
theorem keyOk_st (p : Plc) (on : List Int) : keyOkD (stD p on) = true := by
  obtain ⟨i, e, h⟩ := nkey_st p on
  unfold stD at h ⊢
  unfold keyOkD
  simp only [h]
  simp only [NestedKey.depth, NestedKey.depthAll, depth_nums]
  decide
theorem keyOk_end (L : LOk hs n m) {d : D} (hd : d ∈ stsS hs n) {ss : List Sg} (h : ∀ s ∈ ss, sgOk hs n m s) : keyOkD (endD hs ss d) = true := by
  obtain ⟨p, on, e, _, _⟩ := end_ok L hd h
  rw [e]; exact keyOk_st p on
theorem compK_fold {turn : D → Env → Option (Out (Option (D × D)))} {env : Env} (f v : D → D) : ∀ (items : List D) (acc : List (D × D)), (∀ d ∈ items, turn d env = some (.ok (some (f d, v d)) env) ∧ keyOkD (f d) = true) → compK turn items env acc = some (.ok (items.foldl (fun acc d => putKd acc (f d) (v d)) acc) env)
  | [], acc, _ => rfl
  | d :: ds, acc, h => by
    obtain ⟨h1, h2⟩ := h d List.mem_cons_self
    unfold compK
    rw [h1]
    simp only [h2, if_true]
    exact compK_fold f v ds _ fun x hx => h x (List.mem_cons_of_mem _ hx)
theorem putKd_len (acc : List (D × D)) (q d : D) : (putKd acc q d).length ≤ acc.length + 1 := by
  unfold putKd
  split
  · rw [List.length_map]; omega
  · rw [List.length_append, List.length_singleton]; omega
noncomputable def ends (hs : Hs) (ss : List Sg) (l : List D) (acc : List (D × D)) : List (D × D) := l.foldl (fun acc d => putKd acc (endD hs ss d) (.bool true)) acc
/-! the program -/
theorem ev_need_both (L : LOk hs n m) {ss tt : List Sg} (h : ∀ s ∈ ss, sgOk hs n m s) (h' : ∀ s ∈ tt, sgOk hs n m s) (hl : ss.length ≤ 400) (hl' : tt.length ≤ 400) : M_need_both [lang hs n m, .tuple (ss.map Sg.d), .tuple (tt.map Sg.d)] = some (.ok .none) := by
  have e1 := ev_need_stream L h hl
  have e2 := ev_need_stream L h' hl'
  generalize ss.map Sg.d = S at *
  generalize tt.map Sg.d = T at *
  unfold M_need_both
  simp [runPure, runIo, runMk, b_need_both, p_need_both_1, p_need_both_2, f_need_both__need_stream, mv, setOs, lim, targets, flats, tup, startE, slot, flatP, O.flat, share, frz, endO, intsOf, boolsOf, setAll, P.still, callD, callI, e_ixt, e_ixl, e_isi_int_none, e_isi_int_bool, e_isi_int_int, e_isi_int_str, e_isi_int_list, e_isi_int_tuple, e_isi_int_dict, e_isi_bool_none, e_isi_bool_bool, e_isi_bool_int, e_isi_bool_str, e_isi_bool_list, e_isi_bool_tuple, e_isi_bool_dict, e_isi_str_none, e_isi_str_bool, e_isi_str_int, e_isi_str_str, e_isi_str_list, e_isi_str_tuple, e_isi_str_dict, e_isi_tuple_none, e_isi_tuple_bool, e_isi_tuple_int, e_isi_tuple_str, e_isi_tuple_list, e_isi_tuple_tuple, e_isi_tuple_dict, e_isi_list_none, e_isi_list_bool, e_isi_list_int, e_isi_list_str, e_isi_list_list, e_isi_list_tuple, e_isi_list_dict, e_isi_dict_none, e_isi_dict_bool, e_isi_dict_int, e_isi_dict_str, e_isi_dict_list, e_isi_dict_tuple, e_isi_dict_dict, e_isN_none, e_isN_bool, e_isN_int, e_isN_str, e_isN_list, e_isN_tuple, e_isN_dict, e_tr_none, e_tr_bool, e_tr_int, e_tr_tuple, e_tr_list, e_row_tuple, e_row_list, e_sl_tuple, e_sl_list, e_set_name, e_set_tup, e_eq_ss, e_ne_ss, e_eqa_none, e_eqb_none, e_nea_none, e_neb_none, e_eqa_bool, e_eqb_bool, e_nea_bool, e_neb_bool, e_eqa_int, e_eqb_int, e_nea_int, e_neb_int, e_eqa_list, e_eqb_list, e_nea_list, e_neb_list, e_eqa_tuple, e_eqb_tuple, e_nea_tuple, e_neb_tuple, e_eqa_dict, e_eqb_dict, e_nea_dict, e_neb_dict, e_lt, e_le, e_gt, e_ge, e_isin, e_notin, e_is, e_isnt, e_add_ii, e_add_ss, e_add_tt, e_add_ll, e_sub_ii, e_mul_ii, e_mul_ti, e_mul_li, e_fdiv_ii, e_mod_ii, e_pow_ii, e_len_t, e_len_l, e_int_i, e_int_b, e_max_ii, e_min_ii, e_max_l, e_min_l, e_max_t, e_min_t, e_sum_l, e_sum_t, e_all_l, e_any_l, e_tuple_l, e_tuple_t, e_list_l, e_list_t, e_repr_d, e_divmod_ii, e_sorted_l, e_aug_add, e_aug_sub, e1, e2]
theorem part_loop (L : LOk hs n m) {ss tt : List Sg} (h : ∀ s ∈ ss, sgOk hs n m s) (h' : ∀ s ∈ tt, sgOk hs n m s) (hl : ss.length ≤ 400) (hl' : tt.length ≤ 400) : ∀ (l : List D) (x3 : Option O), (∀ d ∈ l, d ∈ stsS hs n) →
    (l.find? (dif hs ss tt) = none → ∃ y3, forL (bodyF (setT (.name 3)) (evalSs G_parting 0 p_parting_1)) l [some (.fz (lang hs n m)), some (.fz (.tuple (ss.map Sg.d))), some (.fz (.tuple (tt.map Sg.d))), x3] = some (.nx [some (.fz (lang hs n m)), some (.fz (.tuple (ss.map Sg.d))), some (.fz (.tuple (tt.map Sg.d))), y3])) ∧
    (∀ d, l.find? (dif hs ss tt) = some d → ∃ e, forL (bodyF (setT (.name 3)) (evalSs G_parting 0 p_parting_1)) l [some (.fz (lang hs n m)), some (.fz (.tuple (ss.map Sg.d))), some (.fz (.tuple (tt.map Sg.d))), x3] = some (.ret (.fz d) e))
  | [], x3, _ => ⟨fun _ => ⟨x3, rfl⟩, fun d e => by simp at e⟩
  | d :: l, x3, hd => by
    have hd1 := hd d List.mem_cons_self
    obtain ⟨H1, e1⟩ := ev_so L hd1 h (by omega)
    obtain ⟨H2, e2⟩ := ev_so L hd1 h' (by omega)
    have e3 := eq_end L hd1 h h'
    obtain ⟨i1, i2⟩ := part_loop L h h' hl hl' l (some (.fz d)) fun x hx => hd x (List.mem_cons_of_mem _ hx)
    rw [List.find?_cons]
    generalize ss.map Sg.d = S at *
    generalize tt.map Sg.d = T at *
    generalize endD hs ss d = A at *
    generalize endD hs tt d = B at *
    cases hb : dif hs ss tt d with
    | true =>
      rw [hb] at e3
      refine ⟨fun z => by simp at z, fun d' z => ?_⟩
      simp only [Option.some.injEq] at z
      subst z
      refine ⟨[some (.fz (lang hs n m)), some (.fz (.tuple S)), some (.fz (.tuple T)), some (.fz d)], ?_⟩
      unfold forL
      simp [bodyF, p_parting_1, f_parting__standings_of, f_parting__read_so, mv, setOs, lim, targets, flats, tup, startE, slot, flatP, O.flat, share, frz, endO, intsOf, boolsOf, setAll, P.still, callD, callI, e_ixt, e_ixl, e_isi_int_none, e_isi_int_bool, e_isi_int_int, e_isi_int_str, e_isi_int_list, e_isi_int_tuple, e_isi_int_dict, e_isi_bool_none, e_isi_bool_bool, e_isi_bool_int, e_isi_bool_str, e_isi_bool_list, e_isi_bool_tuple, e_isi_bool_dict, e_isi_str_none, e_isi_str_bool, e_isi_str_int, e_isi_str_str, e_isi_str_list, e_isi_str_tuple, e_isi_str_dict, e_isi_tuple_none, e_isi_tuple_bool, e_isi_tuple_int, e_isi_tuple_str, e_isi_tuple_list, e_isi_tuple_tuple, e_isi_tuple_dict, e_isi_list_none, e_isi_list_bool, e_isi_list_int, e_isi_list_str, e_isi_list_list, e_isi_list_tuple, e_isi_list_dict, e_isi_dict_none, e_isi_dict_bool, e_isi_dict_int, e_isi_dict_str, e_isi_dict_list, e_isi_dict_tuple, e_isi_dict_dict, e_isN_none, e_isN_bool, e_isN_int, e_isN_str, e_isN_list, e_isN_tuple, e_isN_dict, e_tr_none, e_tr_bool, e_tr_int, e_tr_tuple, e_tr_list, e_row_tuple, e_row_list, e_sl_tuple, e_sl_list, e_set_name, e_set_tup, e_eq_ss, e_ne_ss, e_eqa_none, e_eqb_none, e_nea_none, e_neb_none, e_eqa_bool, e_eqb_bool, e_nea_bool, e_neb_bool, e_eqa_int, e_eqb_int, e_nea_int, e_neb_int, e_eqa_list, e_eqb_list, e_nea_list, e_neb_list, e_eqa_tuple, e_eqb_tuple, e_nea_tuple, e_neb_tuple, e_eqa_dict, e_eqb_dict, e_nea_dict, e_neb_dict, e_lt, e_le, e_gt, e_ge, e_isin, e_notin, e_is, e_isnt, e_add_ii, e_add_ss, e_add_tt, e_add_ll, e_sub_ii, e_mul_ii, e_mul_ti, e_mul_li, e_fdiv_ii, e_mod_ii, e_pow_ii, e_len_t, e_len_l, e_int_i, e_int_b, e_max_ii, e_min_ii, e_max_l, e_min_l, e_max_t, e_min_t, e_sum_l, e_sum_t, e_all_l, e_any_l, e_tuple_l, e_tuple_t, e_list_l, e_list_t, e_repr_d, e_divmod_ii, e_sorted_l, e_aug_add, e_aug_sub, e1, e2, e3]
    | false =>
      rw [hb] at e3
      have hbody : bodyF (setT (.name 3)) (evalSs G_parting 0 p_parting_1) d [some (.fz (lang hs n m)), some (.fz (.tuple S)), some (.fz (.tuple T)), x3] = some (.nx [some (.fz (lang hs n m)), some (.fz (.tuple S)), some (.fz (.tuple T)), some (.fz d)]) := by
        simp [bodyF, p_parting_1, f_parting__standings_of, f_parting__read_so, mv, setOs, lim, targets, flats, tup, startE, slot, flatP, O.flat, share, frz, endO, intsOf, boolsOf, setAll, P.still, callD, callI, e_ixt, e_ixl, e_isi_int_none, e_isi_int_bool, e_isi_int_int, e_isi_int_str, e_isi_int_list, e_isi_int_tuple, e_isi_int_dict, e_isi_bool_none, e_isi_bool_bool, e_isi_bool_int, e_isi_bool_str, e_isi_bool_list, e_isi_bool_tuple, e_isi_bool_dict, e_isi_str_none, e_isi_str_bool, e_isi_str_int, e_isi_str_str, e_isi_str_list, e_isi_str_tuple, e_isi_str_dict, e_isi_tuple_none, e_isi_tuple_bool, e_isi_tuple_int, e_isi_tuple_str, e_isi_tuple_list, e_isi_tuple_tuple, e_isi_tuple_dict, e_isi_list_none, e_isi_list_bool, e_isi_list_int, e_isi_list_str, e_isi_list_list, e_isi_list_tuple, e_isi_list_dict, e_isi_dict_none, e_isi_dict_bool, e_isi_dict_int, e_isi_dict_str, e_isi_dict_list, e_isi_dict_tuple, e_isi_dict_dict, e_isN_none, e_isN_bool, e_isN_int, e_isN_str, e_isN_list, e_isN_tuple, e_isN_dict, e_tr_none, e_tr_bool, e_tr_int, e_tr_tuple, e_tr_list, e_row_tuple, e_row_list, e_sl_tuple, e_sl_list, e_set_name, e_set_tup, e_eq_ss, e_ne_ss, e_eqa_none, e_eqb_none, e_nea_none, e_neb_none, e_eqa_bool, e_eqb_bool, e_nea_bool, e_neb_bool, e_eqa_int, e_eqb_int, e_nea_int, e_neb_int, e_eqa_list, e_eqb_list, e_nea_list, e_neb_list, e_eqa_tuple, e_eqb_tuple, e_nea_tuple, e_neb_tuple, e_eqa_dict, e_eqb_dict, e_nea_dict, e_neb_dict, e_lt, e_le, e_gt, e_ge, e_isin, e_notin, e_is, e_isnt, e_add_ii, e_add_ss, e_add_tt, e_add_ll, e_sub_ii, e_mul_ii, e_mul_ti, e_mul_li, e_fdiv_ii, e_mod_ii, e_pow_ii, e_len_t, e_len_l, e_int_i, e_int_b, e_max_ii, e_min_ii, e_max_l, e_min_l, e_max_t, e_min_t, e_sum_l, e_sum_t, e_all_l, e_any_l, e_tuple_l, e_tuple_t, e_list_l, e_list_t, e_repr_d, e_divmod_ii, e_sorted_l, e_aug_add, e_aug_sub, e1, e2, e3]
      refine ⟨fun z => ?_, fun d' z => ?_⟩
      · obtain ⟨y3, e⟩ := i1 z
        refine ⟨y3, ?_⟩
        unfold forL
        rw [hbody]
        exact e
      · obtain ⟨e', e⟩ := i2 d' z
        refine ⟨e', ?_⟩
        unfold forL
        rw [hbody]
        exact e
noncomputable def prt (hs : Hs) (n : Nat) (ss tt : List Sg) : Option D := (stsS hs n).find? (dif hs ss tt)
def oD' : Option D → D
  | none => .none
  | some d => d
theorem ev_parting (L : LOk hs n m) {ss tt : List Sg} (h : ∀ s ∈ ss, sgOk hs n m s) (h' : ∀ s ∈ tt, sgOk hs n m s) (hl : ss.length ≤ 400) (hl' : tt.length ≤ 400) : M_parting [lang hs n m, .tuple (ss.map Sg.d), .tuple (tt.map Sg.d)] = some (.ok (oD' (prt hs n ss tt))) := by
  have e0 := ev_standings_of L
  obtain ⟨i1, i2⟩ := part_loop L h h' hl hl' (stsS hs n) none fun d hd => hd
  unfold prt
  generalize (stsS hs n).find? (dif hs ss tt) = F at *
  generalize ss.map Sg.d = S at *
  generalize tt.map Sg.d = T at *
  generalize stsS hs n = Z at *
  unfold M_parting
  cases F with
  | none =>
    obtain ⟨y3, e⟩ := i1 rfl
    simp [runPure, runIo, runMk, b_parting, p_parting_2, p_parting_3, f_parting__standings_of, f_parting__read_so, mv, setOs, lim, targets, flats, tup, startE, slot, flatP, O.flat, share, frz, endO, intsOf, boolsOf, setAll, P.still, callD, callI, e_ixt, e_ixl, e_isi_int_none, e_isi_int_bool, e_isi_int_int, e_isi_int_str, e_isi_int_list, e_isi_int_tuple, e_isi_int_dict, e_isi_bool_none, e_isi_bool_bool, e_isi_bool_int, e_isi_bool_str, e_isi_bool_list, e_isi_bool_tuple, e_isi_bool_dict, e_isi_str_none, e_isi_str_bool, e_isi_str_int, e_isi_str_str, e_isi_str_list, e_isi_str_tuple, e_isi_str_dict, e_isi_tuple_none, e_isi_tuple_bool, e_isi_tuple_int, e_isi_tuple_str, e_isi_tuple_list, e_isi_tuple_tuple, e_isi_tuple_dict, e_isi_list_none, e_isi_list_bool, e_isi_list_int, e_isi_list_str, e_isi_list_list, e_isi_list_tuple, e_isi_list_dict, e_isi_dict_none, e_isi_dict_bool, e_isi_dict_int, e_isi_dict_str, e_isi_dict_list, e_isi_dict_tuple, e_isi_dict_dict, e_isN_none, e_isN_bool, e_isN_int, e_isN_str, e_isN_list, e_isN_tuple, e_isN_dict, e_tr_none, e_tr_bool, e_tr_int, e_tr_tuple, e_tr_list, e_row_tuple, e_row_list, e_sl_tuple, e_sl_list, e_set_name, e_set_tup, e_eq_ss, e_ne_ss, e_eqa_none, e_eqb_none, e_nea_none, e_neb_none, e_eqa_bool, e_eqb_bool, e_nea_bool, e_neb_bool, e_eqa_int, e_eqb_int, e_nea_int, e_neb_int, e_eqa_list, e_eqb_list, e_nea_list, e_neb_list, e_eqa_tuple, e_eqb_tuple, e_nea_tuple, e_neb_tuple, e_eqa_dict, e_eqb_dict, e_nea_dict, e_neb_dict, e_lt, e_le, e_gt, e_ge, e_isin, e_notin, e_is, e_isnt, e_add_ii, e_add_ss, e_add_tt, e_add_ll, e_sub_ii, e_mul_ii, e_mul_ti, e_mul_li, e_fdiv_ii, e_mod_ii, e_pow_ii, e_len_t, e_len_l, e_int_i, e_int_b, e_max_ii, e_min_ii, e_max_l, e_min_l, e_max_t, e_min_t, e_sum_l, e_sum_t, e_all_l, e_any_l, e_tuple_l, e_tuple_t, e_list_l, e_list_t, e_repr_d, e_divmod_ii, e_sorted_l, e_aug_add, e_aug_sub, e0, targets, e, oD']
  | some d =>
    obtain ⟨e', e⟩ := i2 d rfl
    simp [runPure, runIo, runMk, b_parting, p_parting_2, p_parting_3, f_parting__standings_of, f_parting__read_so, mv, setOs, lim, targets, flats, tup, startE, slot, flatP, O.flat, share, frz, endO, intsOf, boolsOf, setAll, P.still, callD, callI, e_ixt, e_ixl, e_isi_int_none, e_isi_int_bool, e_isi_int_int, e_isi_int_str, e_isi_int_list, e_isi_int_tuple, e_isi_int_dict, e_isi_bool_none, e_isi_bool_bool, e_isi_bool_int, e_isi_bool_str, e_isi_bool_list, e_isi_bool_tuple, e_isi_bool_dict, e_isi_str_none, e_isi_str_bool, e_isi_str_int, e_isi_str_str, e_isi_str_list, e_isi_str_tuple, e_isi_str_dict, e_isi_tuple_none, e_isi_tuple_bool, e_isi_tuple_int, e_isi_tuple_str, e_isi_tuple_list, e_isi_tuple_tuple, e_isi_tuple_dict, e_isi_list_none, e_isi_list_bool, e_isi_list_int, e_isi_list_str, e_isi_list_list, e_isi_list_tuple, e_isi_list_dict, e_isi_dict_none, e_isi_dict_bool, e_isi_dict_int, e_isi_dict_str, e_isi_dict_list, e_isi_dict_tuple, e_isi_dict_dict, e_isN_none, e_isN_bool, e_isN_int, e_isN_str, e_isN_list, e_isN_tuple, e_isN_dict, e_tr_none, e_tr_bool, e_tr_int, e_tr_tuple, e_tr_list, e_row_tuple, e_row_list, e_sl_tuple, e_sl_list, e_set_name, e_set_tup, e_eq_ss, e_ne_ss, e_eqa_none, e_eqb_none, e_nea_none, e_neb_none, e_eqa_bool, e_eqb_bool, e_nea_bool, e_neb_bool, e_eqa_int, e_eqb_int, e_nea_int, e_neb_int, e_eqa_list, e_eqb_list, e_nea_list, e_neb_list, e_eqa_tuple, e_eqb_tuple, e_nea_tuple, e_neb_tuple, e_eqa_dict, e_eqb_dict, e_nea_dict, e_neb_dict, e_lt, e_le, e_gt, e_ge, e_isin, e_notin, e_is, e_isnt, e_add_ii, e_add_ss, e_add_tt, e_add_ll, e_sub_ii, e_mul_ii, e_mul_ti, e_mul_li, e_fdiv_ii, e_mod_ii, e_pow_ii, e_len_t, e_len_l, e_int_i, e_int_b, e_max_ii, e_min_ii, e_max_l, e_min_l, e_max_t, e_min_t, e_sum_l, e_sum_t, e_all_l, e_any_l, e_tuple_l, e_tuple_t, e_list_l, e_list_t, e_repr_d, e_divmod_ii, e_sorted_l, e_aug_add, e_aug_sub, e0, targets, e, oD']
theorem prt_isN (L : LOk hs n m) (ss tt : List Sg) : isNone (oD' (prt hs n ss tt)) = (prt hs n ss tt).isNone := by
  cases hp : prt hs n ss tt with
  | none => rfl
  | some d =>
    obtain ⟨p, on, rfl, _, _⟩ := stsS_ok L (List.mem_of_find?_eq_some hp)
    rfl
theorem ev_are_alike (L : LOk hs n m) {ss tt : List Sg} (h : ∀ s ∈ ss, sgOk hs n m s) (h' : ∀ s ∈ tt, sgOk hs n m s) (hl : ss.length ≤ 400) (hl' : tt.length ≤ 400) : M_are_alike [lang hs n m, .tuple (ss.map Sg.d), .tuple (tt.map Sg.d)] = some (.ok (.bool (prt hs n ss tt).isNone)) := by
  have e0 := ev_need_both L h h' hl hl'
  have e1 := ev_parting L h h' hl hl'
  have e2 := prt_isN L ss tt
  generalize (prt hs n ss tt).isNone = b at *
  generalize oD' (prt hs n ss tt) = X at *
  generalize ss.map Sg.d = S at *
  generalize tt.map Sg.d = T at *
  unfold M_are_alike
  simp [runPure, runIo, runMk, b_are_alike, p_are_alike_1, p_are_alike_2, f_are_alike__need_both, f_are_alike__parting, mv, setOs, lim, targets, flats, tup, startE, slot, flatP, O.flat, share, frz, endO, intsOf, boolsOf, setAll, P.still, callD, callI, e_ixt, e_ixl, e_isi_int_none, e_isi_int_bool, e_isi_int_int, e_isi_int_str, e_isi_int_list, e_isi_int_tuple, e_isi_int_dict, e_isi_bool_none, e_isi_bool_bool, e_isi_bool_int, e_isi_bool_str, e_isi_bool_list, e_isi_bool_tuple, e_isi_bool_dict, e_isi_str_none, e_isi_str_bool, e_isi_str_int, e_isi_str_str, e_isi_str_list, e_isi_str_tuple, e_isi_str_dict, e_isi_tuple_none, e_isi_tuple_bool, e_isi_tuple_int, e_isi_tuple_str, e_isi_tuple_list, e_isi_tuple_tuple, e_isi_tuple_dict, e_isi_list_none, e_isi_list_bool, e_isi_list_int, e_isi_list_str, e_isi_list_list, e_isi_list_tuple, e_isi_list_dict, e_isi_dict_none, e_isi_dict_bool, e_isi_dict_int, e_isi_dict_str, e_isi_dict_list, e_isi_dict_tuple, e_isi_dict_dict, e_isN_none, e_isN_bool, e_isN_int, e_isN_str, e_isN_list, e_isN_tuple, e_isN_dict, e_tr_none, e_tr_bool, e_tr_int, e_tr_tuple, e_tr_list, e_row_tuple, e_row_list, e_sl_tuple, e_sl_list, e_set_name, e_set_tup, e_eq_ss, e_ne_ss, e_eqa_none, e_eqb_none, e_nea_none, e_neb_none, e_eqa_bool, e_eqb_bool, e_nea_bool, e_neb_bool, e_eqa_int, e_eqb_int, e_nea_int, e_neb_int, e_eqa_list, e_eqb_list, e_nea_list, e_neb_list, e_eqa_tuple, e_eqb_tuple, e_nea_tuple, e_neb_tuple, e_eqa_dict, e_eqb_dict, e_nea_dict, e_neb_dict, e_lt, e_le, e_gt, e_ge, e_isin, e_notin, e_is, e_isnt, e_add_ii, e_add_ss, e_add_tt, e_add_ll, e_sub_ii, e_mul_ii, e_mul_ti, e_mul_li, e_fdiv_ii, e_mod_ii, e_pow_ii, e_len_t, e_len_l, e_int_i, e_int_b, e_max_ii, e_min_ii, e_max_l, e_min_l, e_max_t, e_min_t, e_sum_l, e_sum_t, e_all_l, e_any_l, e_tuple_l, e_tuple_t, e_list_l, e_list_t, e_repr_d, e_divmod_ii, e_sorted_l, e_aug_add, e_aug_sub, e0, e1, e2]
theorem ev_part (L : LOk hs n m) {ss tt : List Sg} (h : ∀ s ∈ ss, sgOk hs n m s) (h' : ∀ s ∈ tt, sgOk hs n m s) (hl : ss.length ≤ 400) (hl' : tt.length ≤ 400) : M_part [lang hs n m, .tuple (ss.map Sg.d), .tuple (tt.map Sg.d)] = some (.ok (oD' (prt hs n ss tt))) := by
  have e0 := ev_need_both L h h' hl hl'
  have e1 := ev_parting L h h' hl hl'
  generalize oD' (prt hs n ss tt) = X at *
  generalize ss.map Sg.d = S at *
  generalize tt.map Sg.d = T at *
  unfold M_part
  simp [runPure, runIo, runMk, b_part, p_part_1, p_part_2, f_part__need_both, f_part__parting, mv, setOs, lim, targets, flats, tup, startE, slot, flatP, O.flat, share, frz, endO, intsOf, boolsOf, setAll, P.still, callD, callI, e_ixt, e_ixl, e_isi_int_none, e_isi_int_bool, e_isi_int_int, e_isi_int_str, e_isi_int_list, e_isi_int_tuple, e_isi_int_dict, e_isi_bool_none, e_isi_bool_bool, e_isi_bool_int, e_isi_bool_str, e_isi_bool_list, e_isi_bool_tuple, e_isi_bool_dict, e_isi_str_none, e_isi_str_bool, e_isi_str_int, e_isi_str_str, e_isi_str_list, e_isi_str_tuple, e_isi_str_dict, e_isi_tuple_none, e_isi_tuple_bool, e_isi_tuple_int, e_isi_tuple_str, e_isi_tuple_list, e_isi_tuple_tuple, e_isi_tuple_dict, e_isi_list_none, e_isi_list_bool, e_isi_list_int, e_isi_list_str, e_isi_list_list, e_isi_list_tuple, e_isi_list_dict, e_isi_dict_none, e_isi_dict_bool, e_isi_dict_int, e_isi_dict_str, e_isi_dict_list, e_isi_dict_tuple, e_isi_dict_dict, e_isN_none, e_isN_bool, e_isN_int, e_isN_str, e_isN_list, e_isN_tuple, e_isN_dict, e_tr_none, e_tr_bool, e_tr_int, e_tr_tuple, e_tr_list, e_row_tuple, e_row_list, e_sl_tuple, e_sl_list, e_set_name, e_set_tup, e_eq_ss, e_ne_ss, e_eqa_none, e_eqb_none, e_nea_none, e_neb_none, e_eqa_bool, e_eqb_bool, e_nea_bool, e_neb_bool, e_eqa_int, e_eqb_int, e_nea_int, e_neb_int, e_eqa_list, e_eqb_list, e_nea_list, e_neb_list, e_eqa_tuple, e_eqb_tuple, e_nea_tuple, e_neb_tuple, e_eqa_dict, e_eqb_dict, e_nea_dict, e_neb_dict, e_lt, e_le, e_gt, e_ge, e_isin, e_notin, e_is, e_isnt, e_add_ii, e_add_ss, e_add_tt, e_add_ll, e_sub_ii, e_mul_ii, e_mul_ti, e_mul_li, e_fdiv_ii, e_mod_ii, e_pow_ii, e_len_t, e_len_l, e_int_i, e_int_b, e_max_ii, e_min_ii, e_max_l, e_min_l, e_max_t, e_min_t, e_sum_l, e_sum_t, e_all_l, e_any_l, e_tuple_l, e_tuple_t, e_list_l, e_list_t, e_repr_d, e_divmod_ii, e_sorted_l, e_aug_add, e_aug_sub, e0, e1]
theorem stsS_le (L : LOk hs n m) : (stsS hs n).length ≤ 528 := by rw [stsS_len]; exact sts_len L
theorem ev_does_settle (L : LOk hs n m) {ss : List Sg} (h : ∀ s ∈ ss, sgOk hs n m s) (hl : ss.length ≤ 400) : M_does_settle [lang hs n m, .tuple (ss.map Sg.d)] = some (.ok (.bool (decide ((ends hs ss (stsS hs n) []).length = 1)))) := by
  have e0 := ev_need_stream L h hl
  have e1 := ev_standings_of L
  have hc : compK (compTurnK [2] (setT (.name 2)) (evalT G_does_settle .yes) (evalE G_does_settle p_does_settle_2) (evalE G_does_settle p_does_settle_3)) (stsS hs n) [some (.fz (lang hs n m)), some (.fz (.tuple (ss.map Sg.d))), none] [] =
      some (.ok (ends hs ss (stsS hs n) []) [some (.fz (lang hs n m)), some (.fz (.tuple (ss.map Sg.d))), none]) := by
    refine compK_fold (endD hs ss) (fun _ => .bool true) _ [] fun d hd => ⟨?_, keyOk_end L hd h⟩
    obtain ⟨H, e⟩ := ev_so L hd h (by omega)
    generalize endD hs ss d = A at *
    generalize ss.map Sg.d = S at *
    simp [compTurnK, p_does_settle_2, p_does_settle_3, f_does_settle__need_stream, f_does_settle__read_so, f_does_settle__standings_of, mv, setOs, lim, targets, flats, tup, startE, slot, flatP, O.flat, share, frz, endO, intsOf, boolsOf, setAll, P.still, callD, callI, e_ixt, e_ixl, e_isi_int_none, e_isi_int_bool, e_isi_int_int, e_isi_int_str, e_isi_int_list, e_isi_int_tuple, e_isi_int_dict, e_isi_bool_none, e_isi_bool_bool, e_isi_bool_int, e_isi_bool_str, e_isi_bool_list, e_isi_bool_tuple, e_isi_bool_dict, e_isi_str_none, e_isi_str_bool, e_isi_str_int, e_isi_str_str, e_isi_str_list, e_isi_str_tuple, e_isi_str_dict, e_isi_tuple_none, e_isi_tuple_bool, e_isi_tuple_int, e_isi_tuple_str, e_isi_tuple_list, e_isi_tuple_tuple, e_isi_tuple_dict, e_isi_list_none, e_isi_list_bool, e_isi_list_int, e_isi_list_str, e_isi_list_list, e_isi_list_tuple, e_isi_list_dict, e_isi_dict_none, e_isi_dict_bool, e_isi_dict_int, e_isi_dict_str, e_isi_dict_list, e_isi_dict_tuple, e_isi_dict_dict, e_isN_none, e_isN_bool, e_isN_int, e_isN_str, e_isN_list, e_isN_tuple, e_isN_dict, e_tr_none, e_tr_bool, e_tr_int, e_tr_tuple, e_tr_list, e_row_tuple, e_row_list, e_sl_tuple, e_sl_list, e_set_name, e_set_tup, e_eq_ss, e_ne_ss, e_eqa_none, e_eqb_none, e_nea_none, e_neb_none, e_eqa_bool, e_eqb_bool, e_nea_bool, e_neb_bool, e_eqa_int, e_eqb_int, e_nea_int, e_neb_int, e_eqa_list, e_eqb_list, e_nea_list, e_neb_list, e_eqa_tuple, e_eqb_tuple, e_nea_tuple, e_neb_tuple, e_eqa_dict, e_eqb_dict, e_nea_dict, e_neb_dict, e_lt, e_le, e_gt, e_ge, e_isin, e_notin, e_is, e_isnt, e_add_ii, e_add_ss, e_add_tt, e_add_ll, e_sub_ii, e_mul_ii, e_mul_ti, e_mul_li, e_fdiv_ii, e_mod_ii, e_pow_ii, e_len_t, e_len_l, e_int_i, e_int_b, e_max_ii, e_min_ii, e_max_l, e_min_l, e_max_t, e_min_t, e_sum_l, e_sum_t, e_all_l, e_any_l, e_tuple_l, e_tuple_t, e_list_l, e_list_t, e_repr_d, e_divmod_ii, e_sorted_l, e_aug_add, e_aug_sub, e, frOk, wipeE]
  have hle := stsS_le L
  have hle' : (stsS hs n).length ≤ 16777216 := by omega
  generalize ends hs ss (stsS hs n) [] = E at *
  generalize stsS hs n = Z at *
  generalize ss.map Sg.d = S at *
  unfold M_does_settle
  simp [runPure, runIo, runMk, b_does_settle, p_does_settle_1, p_does_settle_4, f_does_settle__need_stream, f_does_settle__read_so, f_does_settle__standings_of, mv, setOs, lim, targets, flats, tup, startE, slot, flatP, O.flat, share, frz, endO, intsOf, boolsOf, setAll, P.still, callD, callI, e_ixt, e_ixl, e_isi_int_none, e_isi_int_bool, e_isi_int_int, e_isi_int_str, e_isi_int_list, e_isi_int_tuple, e_isi_int_dict, e_isi_bool_none, e_isi_bool_bool, e_isi_bool_int, e_isi_bool_str, e_isi_bool_list, e_isi_bool_tuple, e_isi_bool_dict, e_isi_str_none, e_isi_str_bool, e_isi_str_int, e_isi_str_str, e_isi_str_list, e_isi_str_tuple, e_isi_str_dict, e_isi_tuple_none, e_isi_tuple_bool, e_isi_tuple_int, e_isi_tuple_str, e_isi_tuple_list, e_isi_tuple_tuple, e_isi_tuple_dict, e_isi_list_none, e_isi_list_bool, e_isi_list_int, e_isi_list_str, e_isi_list_list, e_isi_list_tuple, e_isi_list_dict, e_isi_dict_none, e_isi_dict_bool, e_isi_dict_int, e_isi_dict_str, e_isi_dict_list, e_isi_dict_tuple, e_isi_dict_dict, e_isN_none, e_isN_bool, e_isN_int, e_isN_str, e_isN_list, e_isN_tuple, e_isN_dict, e_tr_none, e_tr_bool, e_tr_int, e_tr_tuple, e_tr_list, e_row_tuple, e_row_list, e_sl_tuple, e_sl_list, e_set_name, e_set_tup, e_eq_ss, e_ne_ss, e_eqa_none, e_eqb_none, e_nea_none, e_neb_none, e_eqa_bool, e_eqb_bool, e_nea_bool, e_neb_bool, e_eqa_int, e_eqb_int, e_nea_int, e_neb_int, e_eqa_list, e_eqb_list, e_nea_list, e_neb_list, e_eqa_tuple, e_eqb_tuple, e_nea_tuple, e_neb_tuple, e_eqa_dict, e_eqb_dict, e_nea_dict, e_neb_dict, e_lt, e_le, e_gt, e_ge, e_isin, e_notin, e_is, e_isnt, e_add_ii, e_add_ss, e_add_tt, e_add_ll, e_sub_ii, e_mul_ii, e_mul_ti, e_mul_li, e_fdiv_ii, e_mod_ii, e_pow_ii, e_len_t, e_len_l, e_int_i, e_int_b, e_max_ii, e_min_ii, e_max_l, e_min_l, e_max_t, e_min_t, e_sum_l, e_sum_t, e_all_l, e_any_l, e_tuple_l, e_tuple_t, e_list_l, e_list_t, e_repr_d, e_divmod_ii, e_sorted_l, e_aug_add, e_aug_sub, e0, e1, tgIn, frOk, wipeE, backE, hc, hle', kdP]
  omega
end
end NW
end
section
set_option Elab.async false
set_option linter.all false
set_option maxRecDepth 100000
set_option maxHeartbeats 2000000
namespace NW
open PySem L2
/-! whether two streams are compared as all standings show -/
section
variable {hs : Hs} {n m : Nat}
theorem ends_loop (L : LOk hs n m) {ss tt : List Sg} (h : ∀ s ∈ ss, sgOk hs n m s) (hl : ss.length ≤ 400) (x3 x6 : Option O) : ∀ (l : List D) (acc : List (D × D)) (x5 : Option O), (∀ d ∈ l, d ∈ stsS hs n) → acc.length + l.length ≤ 1000 →
    ∃ y5, forL (bodyF (setT (.name 5)) (evalSs G__law_right 0 p__law_right_5)) l [some (.fz (lang hs n m)), some (.fz (.tuple (ss.map Sg.d))), some (.fz (.tuple (tt.map Sg.d))), x3, some (.kd acc), x5, x6] =
      some (.nx [some (.fz (lang hs n m)), some (.fz (.tuple (ss.map Sg.d))), some (.fz (.tuple (tt.map Sg.d))), x3, some (.kd (ends hs ss l acc)), y5, x6])
  | [], acc, x5, _, _ => ⟨x5, rfl⟩
  | d :: l, acc, x5, hd, hn => by
    rw [List.length_cons] at hn
    have hd1 := hd d List.mem_cons_self
    obtain ⟨H1, e1⟩ := ev_lr L hd1 h (by omega)
    have k1 := keyOk_end L hd1 h
    have hlen : acc.length < 16777216 := by omega
    obtain ⟨y5, e⟩ := ends_loop L h hl x3 x6 l (putKd acc (endD hs ss d) (.bool true)) (some (.fz d)) (fun x hx => hd x (List.mem_cons_of_mem _ hx)) (by have := putKd_len acc (endD hs ss d) (.bool true); omega) (tt := tt)
    refine ⟨y5, ?_⟩
    have he : ends hs ss (d :: l) acc = ends hs ss l (putKd acc (endD hs ss d) (.bool true)) := rfl
    rw [he]
    unfold forL
    generalize endD hs ss d = A at *
    generalize ss.map Sg.d = S at *
    generalize tt.map Sg.d = T at *
    have hb : bodyF (setT (.name 5)) (evalSs G__law_right 0 p__law_right_5) d [some (.fz (lang hs n m)), some (.fz (.tuple S)), some (.fz (.tuple T)), x3, some (.kd acc), x5, x6] = some (.nx [some (.fz (lang hs n m)), some (.fz (.tuple S)), some (.fz (.tuple T)), x3, some (.kd (putKd acc A (.bool true))), some (.fz d), x6]) := by
      simp [bodyF, p__law_right_5, f__law_right___law_standings, f__law_right__part, f__law_right___law_read, f__law_right__are_alike, f__law_right__does_settle, mv, setOs, lim, targets, flats, tup, startE, slot, flatP, O.flat, share, frz, endO, intsOf, boolsOf, setAll, P.still, callD, callI, e_ixt, e_ixl, e_isi_int_none, e_isi_int_bool, e_isi_int_int, e_isi_int_str, e_isi_int_list, e_isi_int_tuple, e_isi_int_dict, e_isi_bool_none, e_isi_bool_bool, e_isi_bool_int, e_isi_bool_str, e_isi_bool_list, e_isi_bool_tuple, e_isi_bool_dict, e_isi_str_none, e_isi_str_bool, e_isi_str_int, e_isi_str_str, e_isi_str_list, e_isi_str_tuple, e_isi_str_dict, e_isi_tuple_none, e_isi_tuple_bool, e_isi_tuple_int, e_isi_tuple_str, e_isi_tuple_list, e_isi_tuple_tuple, e_isi_tuple_dict, e_isi_list_none, e_isi_list_bool, e_isi_list_int, e_isi_list_str, e_isi_list_list, e_isi_list_tuple, e_isi_list_dict, e_isi_dict_none, e_isi_dict_bool, e_isi_dict_int, e_isi_dict_str, e_isi_dict_list, e_isi_dict_tuple, e_isi_dict_dict, e_isN_none, e_isN_bool, e_isN_int, e_isN_str, e_isN_list, e_isN_tuple, e_isN_dict, e_tr_none, e_tr_bool, e_tr_int, e_tr_tuple, e_tr_list, e_row_tuple, e_row_list, e_sl_tuple, e_sl_list, e_set_name, e_set_tup, e_eq_ss, e_ne_ss, e_eqa_none, e_eqb_none, e_nea_none, e_neb_none, e_eqa_bool, e_eqb_bool, e_nea_bool, e_neb_bool, e_eqa_int, e_eqb_int, e_nea_int, e_neb_int, e_eqa_list, e_eqb_list, e_nea_list, e_neb_list, e_eqa_tuple, e_eqb_tuple, e_nea_tuple, e_neb_tuple, e_eqa_dict, e_eqb_dict, e_nea_dict, e_neb_dict, e_lt, e_le, e_gt, e_ge, e_isin, e_notin, e_is, e_isnt, e_add_ii, e_add_ss, e_add_tt, e_add_ll, e_sub_ii, e_mul_ii, e_mul_ti, e_mul_li, e_fdiv_ii, e_mod_ii, e_pow_ii, e_len_t, e_len_l, e_int_i, e_int_b, e_max_ii, e_min_ii, e_max_l, e_min_l, e_max_t, e_min_t, e_sum_l, e_sum_t, e_all_l, e_any_l, e_tuple_l, e_tuple_t, e_list_l, e_list_t, e_repr_d, e_divmod_ii, e_sorted_l, e_aug_add, e_aug_sub, e1, putO, k1, hlen]
    rw [hb]
    exact e
theorem eq_row {F : List D} (h : shaped (.list F) = true) : eqD (.list F) (.list []) = some (decide (F = [])) := by
  have h2 : shaped (.list []) = true := by decide +kernel
  unfold eqD
  rw [h, h2]
  cases F with
  | nil => simp [PyData.eqv, PyData.eqvAll]
  | cons x xs => simp [PyData.eqv, PyData.eqvAll]
theorem find_filter (p : D → Bool) : ∀ l : List D, (l.filter p = [] ∧ l.find? p = none) ∨ ∃ x r, l.filter p = x :: r ∧ l.find? p = some x
  | [] => .inl ⟨rfl, rfl⟩
  | y :: l => by
    cases h : p y with
    | true => exact .inr ⟨y, l.filter p, by simp [List.filter_cons, h], by simp [List.find?_cons, h]⟩
    | false =>
      rcases find_filter p l with ⟨a, b⟩ | ⟨x, r, a, b⟩
      · exact .inl ⟨by simp [List.filter_cons, h, a], by simp [List.find?_cons, h, b]⟩
      · exact .inr ⟨x, r, by simp [List.filter_cons, h, a], by simp [List.find?_cons, h, b]⟩
theorem fine_bools (a b : Bool) : reprOk (.list [.bool a, .bool b]) = true :=
  Fine.repr (k := 1) (c := 17) (Fine.list (k := 0) (c := 5) (N := 2) (fun x hx => by
    simp only [List.mem_cons, List.not_mem_nil, or_false] at hx
    rcases hx with rfl | rfl <;> exact Fine.bool _) (by simp) (by omega)) (by omega) (by omega)
theorem ev_right (L : LOk hs n m) {ss tt : List Sg} (h : ∀ s ∈ ss, sgOk hs n m s) (h' : ∀ s ∈ tt, sgOk hs n m s) (hl : ss.length ≤ 400) (hl' : tt.length ≤ 400) : M__law_right [lang hs n m, .tuple (ss.map Sg.d), .tuple (tt.map Sg.d)] = some (.ok (.bool true)) := by
  have e0 := ev_law_standings L
  have e1 := ev_part L h h' hl hl'
  have e2 := ev_are_alike L h h' hl hl'
  have e3 := ev_does_settle L h hl
  have hle := stsS_le L
  obtain ⟨y5, e4⟩ := ends_loop L h hl (some (.fz (.list (stsS hs n)))) (some (.lst ((stsS hs n).filter (dif hs ss tt)))) (stsS hs n) [] none (fun d hd => hd) (by simp; omega) (tt := tt)
  have hc : compL (compTurn [5] (setT (.name 5)) (evalT G__law_right p__law_right_2) (evalE G__law_right p__law_right_3)) (stsS hs n) [some (.fz (lang hs n m)), some (.fz (.tuple (ss.map Sg.d))), some (.fz (.tuple (tt.map Sg.d))), some (.fz (.list (stsS hs n))), some (.kd []), none, none] =
      some (.ok ((stsS hs n).filter (dif hs ss tt)) [some (.fz (lang hs n m)), some (.fz (.tuple (ss.map Sg.d))), some (.fz (.tuple (tt.map Sg.d))), some (.fz (.list (stsS hs n))), some (.kd []), none, none]) := by
    refine compL_filter _ fun d hd => ?_
    obtain ⟨H1, q1⟩ := ev_lr L hd h (by omega)
    obtain ⟨H2, q2⟩ := ev_lr L hd h' (by omega)
    have q3 := eq_end L hd h h'
    generalize ss.map Sg.d = S at *
    generalize tt.map Sg.d = T at *
    generalize stsS hs n = Z at *
    generalize endD hs ss d = A at *
    generalize endD hs tt d = B at *
    generalize dif hs ss tt d = b at *
    cases b <;> simp [compTurn, p__law_right_2, p__law_right_3, f__law_right___law_standings, f__law_right__part, f__law_right___law_read, f__law_right__are_alike, f__law_right__does_settle, mv, setOs, lim, targets, flats, tup, startE, slot, flatP, O.flat, share, frz, endO, intsOf, boolsOf, setAll, P.still, callD, callI, e_ixt, e_ixl, e_isi_int_none, e_isi_int_bool, e_isi_int_int, e_isi_int_str, e_isi_int_list, e_isi_int_tuple, e_isi_int_dict, e_isi_bool_none, e_isi_bool_bool, e_isi_bool_int, e_isi_bool_str, e_isi_bool_list, e_isi_bool_tuple, e_isi_bool_dict, e_isi_str_none, e_isi_str_bool, e_isi_str_int, e_isi_str_str, e_isi_str_list, e_isi_str_tuple, e_isi_str_dict, e_isi_tuple_none, e_isi_tuple_bool, e_isi_tuple_int, e_isi_tuple_str, e_isi_tuple_list, e_isi_tuple_tuple, e_isi_tuple_dict, e_isi_list_none, e_isi_list_bool, e_isi_list_int, e_isi_list_str, e_isi_list_list, e_isi_list_tuple, e_isi_list_dict, e_isi_dict_none, e_isi_dict_bool, e_isi_dict_int, e_isi_dict_str, e_isi_dict_list, e_isi_dict_tuple, e_isi_dict_dict, e_isN_none, e_isN_bool, e_isN_int, e_isN_str, e_isN_list, e_isN_tuple, e_isN_dict, e_tr_none, e_tr_bool, e_tr_int, e_tr_tuple, e_tr_list, e_row_tuple, e_row_list, e_sl_tuple, e_sl_list, e_set_name, e_set_tup, e_eq_ss, e_ne_ss, e_eqa_none, e_eqb_none, e_nea_none, e_neb_none, e_eqa_bool, e_eqb_bool, e_nea_bool, e_neb_bool, e_eqa_int, e_eqb_int, e_nea_int, e_neb_int, e_eqa_list, e_eqb_list, e_nea_list, e_neb_list, e_eqa_tuple, e_eqb_tuple, e_nea_tuple, e_neb_tuple, e_eqa_dict, e_eqb_dict, e_nea_dict, e_neb_dict, e_lt, e_le, e_gt, e_ge, e_isin, e_notin, e_is, e_isnt, e_add_ii, e_add_ss, e_add_tt, e_add_ll, e_sub_ii, e_mul_ii, e_mul_ti, e_mul_li, e_fdiv_ii, e_mod_ii, e_pow_ii, e_len_t, e_len_l, e_int_i, e_int_b, e_max_ii, e_min_ii, e_max_l, e_min_l, e_max_t, e_min_t, e_sum_l, e_sum_t, e_all_l, e_any_l, e_tuple_l, e_tuple_t, e_list_l, e_list_t, e_repr_d, e_divmod_ii, e_sorted_l, e_aug_add, e_aug_sub, q1, q2, q3, wipeO, frOk, wipeE]
  have hff := find_filter (dif hs ss tt) (stsS hs n)
  have hsh : shaped (.list ((stsS hs n).filter (dif hs ss tt))) = true := by
    refine Fine.shaped (k := 3) (c := 500000) (Fine.list (k := 2) (c := 900) (N := 528) (fun x hx => ?_) (Nat.le_trans (List.length_filter_le _ _) hle) (by omega)) (by omega)
    obtain ⟨p, on, rfl, hp, ho⟩ := stsS_ok L (List.mem_filter.mp hx).1
    exact fine_st L hp ho
  have hx : ∀ x r, (stsS hs n).filter (dif hs ss tt) = x :: r → reprOk x = true := fun x r e => by
    have hm : x ∈ (stsS hs n).filter (dif hs ss tt) := by rw [e]; exact List.mem_cons_self
    obtain ⟨p, on, rfl, hp, ho⟩ := stsS_ok L (List.mem_filter.mp hm).1
    exact (fine_st L hp ho).repr (by omega) (by omega)
  have hq := eq_row hsh
  have hle' : (stsS hs n).length ≤ 16777216 := by omega
  have hnone : reprOk .none = true := Fine.none.repr (by omega) (by omega)
  have hb := fine_bools
  have hF : prt hs n ss tt = (stsS hs n).find? (dif hs ss tt) := rfl
  rw [hF] at e1 e2
  generalize ends hs ss (stsS hs n) [] = E at *
  generalize hf1 : (stsS hs n).find? (dif hs ss tt) = F1 at *
  generalize hf2 : (stsS hs n).filter (dif hs ss tt) = F2 at *
  generalize stsS hs n = Z at *
  generalize ss.map Sg.d = S at *
  generalize tt.map Sg.d = T at *
  have hE : ((E.length : Int) = 1) ↔ (E.length = 1) := by omega
  unfold M__law_right
  rcases hff with ⟨rfl, rfl⟩ | ⟨x, r, rfl, rfl⟩
  · simp [runPure, runIo, runMk, b__law_right, p__law_right_1, p__law_right_4, p__law_right_6, p__law_right_7, p__law_right_8, f__law_right___law_standings, f__law_right__part, f__law_right___law_read, f__law_right__are_alike, f__law_right__does_settle, mv, setOs, lim, targets, flats, tup, startE, slot, flatP, O.flat, share, frz, endO, intsOf, boolsOf, setAll, P.still, callD, callI, e_ixt, e_ixl, e_isi_int_none, e_isi_int_bool, e_isi_int_int, e_isi_int_str, e_isi_int_list, e_isi_int_tuple, e_isi_int_dict, e_isi_bool_none, e_isi_bool_bool, e_isi_bool_int, e_isi_bool_str, e_isi_bool_list, e_isi_bool_tuple, e_isi_bool_dict, e_isi_str_none, e_isi_str_bool, e_isi_str_int, e_isi_str_str, e_isi_str_list, e_isi_str_tuple, e_isi_str_dict, e_isi_tuple_none, e_isi_tuple_bool, e_isi_tuple_int, e_isi_tuple_str, e_isi_tuple_list, e_isi_tuple_tuple, e_isi_tuple_dict, e_isi_list_none, e_isi_list_bool, e_isi_list_int, e_isi_list_str, e_isi_list_list, e_isi_list_tuple, e_isi_list_dict, e_isi_dict_none, e_isi_dict_bool, e_isi_dict_int, e_isi_dict_str, e_isi_dict_list, e_isi_dict_tuple, e_isi_dict_dict, e_isN_none, e_isN_bool, e_isN_int, e_isN_str, e_isN_list, e_isN_tuple, e_isN_dict, e_tr_none, e_tr_bool, e_tr_int, e_tr_tuple, e_tr_list, e_row_tuple, e_row_list, e_sl_tuple, e_sl_list, e_set_name, e_set_tup, e_eq_ss, e_ne_ss, e_eqa_none, e_eqb_none, e_nea_none, e_neb_none, e_eqa_bool, e_eqb_bool, e_nea_bool, e_neb_bool, e_eqa_int, e_eqb_int, e_nea_int, e_neb_int, e_eqa_list, e_eqb_list, e_nea_list, e_neb_list, e_eqa_tuple, e_eqb_tuple, e_nea_tuple, e_neb_tuple, e_eqa_dict, e_eqb_dict, e_nea_dict, e_neb_dict, e_lt, e_le, e_gt, e_ge, e_isin, e_notin, e_is, e_isnt, e_add_ii, e_add_ss, e_add_tt, e_add_ll, e_sub_ii, e_mul_ii, e_mul_ti, e_mul_li, e_fdiv_ii, e_mod_ii, e_pow_ii, e_len_t, e_len_l, e_int_i, e_int_b, e_max_ii, e_min_ii, e_max_l, e_min_l, e_max_t, e_min_t, e_sum_l, e_sum_t, e_all_l, e_any_l, e_tuple_l, e_tuple_t, e_list_l, e_list_t, e_repr_d, e_divmod_ii, e_sorted_l, e_aug_add, e_aug_sub, e0, tgIn, frOk, wipeE, backE, hc, hle', targets, e4, e1, e2, e3, hq, oD', hnone, kdP, hE, hb]
  · have hx1 := hx x r rfl
    simp [runPure, runIo, runMk, b__law_right, p__law_right_1, p__law_right_4, p__law_right_6, p__law_right_7, p__law_right_8, f__law_right___law_standings, f__law_right__part, f__law_right___law_read, f__law_right__are_alike, f__law_right__does_settle, mv, setOs, lim, targets, flats, tup, startE, slot, flatP, O.flat, share, frz, endO, intsOf, boolsOf, setAll, P.still, callD, callI, e_ixt, e_ixl, e_isi_int_none, e_isi_int_bool, e_isi_int_int, e_isi_int_str, e_isi_int_list, e_isi_int_tuple, e_isi_int_dict, e_isi_bool_none, e_isi_bool_bool, e_isi_bool_int, e_isi_bool_str, e_isi_bool_list, e_isi_bool_tuple, e_isi_bool_dict, e_isi_str_none, e_isi_str_bool, e_isi_str_int, e_isi_str_str, e_isi_str_list, e_isi_str_tuple, e_isi_str_dict, e_isi_tuple_none, e_isi_tuple_bool, e_isi_tuple_int, e_isi_tuple_str, e_isi_tuple_list, e_isi_tuple_tuple, e_isi_tuple_dict, e_isi_list_none, e_isi_list_bool, e_isi_list_int, e_isi_list_str, e_isi_list_list, e_isi_list_tuple, e_isi_list_dict, e_isi_dict_none, e_isi_dict_bool, e_isi_dict_int, e_isi_dict_str, e_isi_dict_list, e_isi_dict_tuple, e_isi_dict_dict, e_isN_none, e_isN_bool, e_isN_int, e_isN_str, e_isN_list, e_isN_tuple, e_isN_dict, e_tr_none, e_tr_bool, e_tr_int, e_tr_tuple, e_tr_list, e_row_tuple, e_row_list, e_sl_tuple, e_sl_list, e_set_name, e_set_tup, e_eq_ss, e_ne_ss, e_eqa_none, e_eqb_none, e_nea_none, e_neb_none, e_eqa_bool, e_eqb_bool, e_nea_bool, e_neb_bool, e_eqa_int, e_eqb_int, e_nea_int, e_neb_int, e_eqa_list, e_eqb_list, e_nea_list, e_neb_list, e_eqa_tuple, e_eqb_tuple, e_nea_tuple, e_neb_tuple, e_eqa_dict, e_eqb_dict, e_nea_dict, e_neb_dict, e_lt, e_le, e_gt, e_ge, e_isin, e_notin, e_is, e_isnt, e_add_ii, e_add_ss, e_add_tt, e_add_ll, e_sub_ii, e_mul_ii, e_mul_ti, e_mul_li, e_fdiv_ii, e_mod_ii, e_pow_ii, e_len_t, e_len_l, e_int_i, e_int_b, e_max_ii, e_min_ii, e_max_l, e_min_l, e_max_t, e_min_t, e_sum_l, e_sum_t, e_all_l, e_any_l, e_tuple_l, e_tuple_t, e_list_l, e_list_t, e_repr_d, e_divmod_ii, e_sorted_l, e_aug_add, e_aug_sub, e0, tgIn, frOk, wipeE, backE, hc, hle', targets, e4, e1, e2, e3, hq, oD', hx1, kdP, hE, hb]
end
end NW
end
section
set_option Elab.async false
set_option linter.all false
set_option maxRecDepth 100000
set_option maxHeartbeats 2000000
namespace NW
open PySem L2
theorem cut_drop (xs : List D) (k : Nat) : cutD xs (some (k : Int)) none = xs.drop k := by
  unfold cutD
  have := HT.sIx_nat xs.length 0 k
  rw [this, HT.sIx_none]
  by_cases h : k ≤ xs.length
  · rw [Nat.min_eq_left h, List.take_of_length_le (by simp)]
  · rw [Nat.min_eq_right (by omega), List.drop_eq_nil_of_le (Nat.le_refl _), List.drop_eq_nil_of_le (by omega)]; simp
theorem cut_drop1 (xs : List D) (k : Nat) : cutD xs (some ((k : Int) + 1)) none = xs.drop (k + 1) := cut_drop xs (k + 1)
theorem repOk_lo {l : Nat} {n : Int} (h : n < 2) : repOk l n = false := by
  cases e : repOk l n with
  | false => rfl
  | true => have := repOk_iff.mp e; omega
/-! the law -/
abbrev Cp := List Sg × List Sg
def cpD (c : Cp) : D := .tuple [.tuple (c.1.map Sg.d), .tuple (c.2.map Sg.d)]
def cpOk (hs : Hs) (n m : Nat) (c : Cp) : Prop := (∀ s ∈ c.1, sgOk hs n m s) ∧ (∀ s ∈ c.2, sgOk hs n m s) ∧ c.1.length ≤ 400 ∧ c.2.length ≤ 400
theorem rights {hs : Hs} {n m : Nat} (L : LOk hs n m) (x0 x1 x2 x4 x5 x6 x7 x8 x11 : Option O) : ∀ (l : List Cp) (x9 x10 : Option O), (∀ c ∈ l, cpOk hs n m c) →
    ∃ y9 y10, forL (bodyF (setT (.tup [9, 10])) (evalSs G_law 0 p_law_9)) (l.map cpD) [x0, x1, x2, some (.fz (lang hs n m)), x4, x5, x6, x7, x8, x9, x10, x11] =
      some (.nx [x0, x1, x2, some (.fz (lang hs n m)), x4, x5, x6, x7, x8, y9, y10, x11])
  | [], x9, x10, _ => ⟨x9, x10, rfl⟩
  | c :: l, x9, x10, h => by
    obtain ⟨h1, h2, h3, h4⟩ := h c List.mem_cons_self
    have e1 := ev_right L h1 h2 h3 h4
    obtain ⟨y9, y10, e⟩ := rights L x0 x1 x2 x4 x5 x6 x7 x8 x11 l (some (.fz (.tuple (c.1.map Sg.d)))) (some (.fz (.tuple (c.2.map Sg.d)))) fun x hx => h x (List.mem_cons_of_mem _ hx)
    refine ⟨y9, y10, ?_⟩
    rw [List.map_cons]
    unfold forL
    have hb : bodyF (setT (.tup [9, 10])) (evalSs G_law 0 p_law_9) (cpD c) [x0, x1, x2, some (.fz (lang hs n m)), x4, x5, x6, x7, x8, x9, x10, x11] =
        some (.nx [x0, x1, x2, some (.fz (lang hs n m)), x4, x5, x6, x7, x8, some (.fz (.tuple (c.1.map Sg.d))), some (.fz (.tuple (c.2.map Sg.d))), x11]) := by
      unfold cpD
      generalize c.1.map Sg.d = S at *
      generalize c.2.map Sg.d = T at *
      simp [bodyF, p_law_9, f_law___law_right, mv, setOs, lim, targets, flats, tup, startE, slot, flatP, O.flat, share, frz, endO, intsOf, boolsOf, setAll, P.still, callD, callI, e_ixt, e_ixl, e_isi_int_none, e_isi_int_bool, e_isi_int_int, e_isi_int_str, e_isi_int_list, e_isi_int_tuple, e_isi_int_dict, e_isi_bool_none, e_isi_bool_bool, e_isi_bool_int, e_isi_bool_str, e_isi_bool_list, e_isi_bool_tuple, e_isi_bool_dict, e_isi_str_none, e_isi_str_bool, e_isi_str_int, e_isi_str_str, e_isi_str_list, e_isi_str_tuple, e_isi_str_dict, e_isi_tuple_none, e_isi_tuple_bool, e_isi_tuple_int, e_isi_tuple_str, e_isi_tuple_list, e_isi_tuple_tuple, e_isi_tuple_dict, e_isi_list_none, e_isi_list_bool, e_isi_list_int, e_isi_list_str, e_isi_list_list, e_isi_list_tuple, e_isi_list_dict, e_isi_dict_none, e_isi_dict_bool, e_isi_dict_int, e_isi_dict_str, e_isi_dict_list, e_isi_dict_tuple, e_isi_dict_dict, e_isN_none, e_isN_bool, e_isN_int, e_isN_str, e_isN_list, e_isN_tuple, e_isN_dict, e_tr_none, e_tr_bool, e_tr_int, e_tr_tuple, e_tr_list, e_row_tuple, e_row_list, e_sl_tuple, e_sl_list, e_set_name, e_set_tup, e_eq_ss, e_ne_ss, e_eqa_none, e_eqb_none, e_nea_none, e_neb_none, e_eqa_bool, e_eqb_bool, e_nea_bool, e_neb_bool, e_eqa_int, e_eqb_int, e_nea_int, e_neb_int, e_eqa_list, e_eqb_list, e_nea_list, e_neb_list, e_eqa_tuple, e_eqb_tuple, e_nea_tuple, e_neb_tuple, e_eqa_dict, e_eqb_dict, e_nea_dict, e_neb_dict, e_lt, e_le, e_gt, e_ge, e_isin, e_notin, e_is, e_isnt, e_add_ii, e_add_ss, e_add_tt, e_add_ll, e_sub_ii, e_mul_ii, e_mul_ti, e_mul_li, e_fdiv_ii, e_mod_ii, e_pow_ii, e_len_t, e_len_l, e_int_i, e_int_b, e_max_ii, e_min_ii, e_max_l, e_min_l, e_max_t, e_min_t, e_sum_l, e_sum_t, e_all_l, e_any_l, e_tuple_l, e_tuple_t, e_list_l, e_list_t, e_repr_d, e_divmod_ii, e_sorted_l, e_aug_add, e_aug_sub, e1]
    rw [hb]
    exact e
theorem law_turn {k : Nat} {c g : List Int} {t : Int} (M : Mach k c g t) (hk : k + 50000 < 400000) (d : D) (x0 x2 x3 x4 x5 x6 x7 x8 x9 x10 x11 : Option O) :
    ∃ (g' : List Int) (t' : Int) (y2 y3 y4 y5 y6 y7 y8 y9 y10 : Option O), Mach (k + 1000) c g' t' ∧ bodyF (setT (.name 2)) (evalSs G_law 0 p_law_11) d [x0, some (.dct (stK c g t)), x2, x3, x4, x5, x6, x7, x8, x9, x10, x11] =
      some (.nx [x0, some (.dct (stK c g' t')), y2, y3, y4, y5, y6, y7, y8, y9, y10, x11]) := by
  obtain ⟨hs, n, m, g1, t1, L, M1, e1⟩ := ev_tongue M (by omega) (T := 3) (NN := 3) (by omega) (by omega) (by omega) (by omega)
  obtain ⟨ss, g2, t2, hss, hsl, M2, e2⟩ := ev_line L M1 (by omega) (T := 8) (by omega)
  obtain ⟨os, g3, t3, hos, hol, M3, e3⟩ := ev_line L M2 (by omega) (T := 8) (by omega)
  obtain ⟨kk, g4, t4, l4, M4, e4⟩ := M3.draw (t := (ss.length : Int) + 1) (by omega) (by omega) (by omega)
  have a1 := L.h1
  have a4 := L.h4
  obtain ⟨j, g5, t5, l5, M5, e5⟩ := M4.draw (t := (hs.length : Int)) (by omega) (by omega) (by omega)
  have hj : sgOk hs n m (.head j) := show j < hs.length by omega
  have hmq : ∃ q : List Sg, (∀ s ∈ q, sgOk hs n m s) ∧ q.length ≤ 1 ∧ binO .mul (.tuple [.tuple [.str "moment", .int 0]]) (.int (if (1 : Int) < (m : Int) then 1 else (m : Int))) = some (.fz (.tuple (q.map Sg.d))) := by
    by_cases hm : 0 < m
    · have : (if (1 : Int) < (m : Int) then (1 : Int) else (m : Int)) = 1 := by have := L.m2; split <;> omega
      rw [this]
      refine ⟨[.moment 0], fun s hs' => by rw [List.mem_singleton] at hs'; subst hs'; exact hm, by simp, ?_⟩
      rw [e_mul_ti, repOk_lo (by decide)]
      simp [Sg.d]
    · have : (if (1 : Int) < (m : Int) then (1 : Int) else (m : Int)) = 0 := by split <;> omega
      rw [this]
      refine ⟨[], (fun s hs' => nomatch hs'), by simp, ?_⟩
      rw [e_mul_ti, repOk_lo (by decide)]
      simp
  obtain ⟨q, hq, hql, eq⟩ := hmq
  have mt : ∀ i, ∀ s ∈ ss.take i, sgOk hs n m s := fun i s hs' => hss s (List.mem_of_mem_take hs')
  have md : ∀ i, ∀ s ∈ ss.drop i, sgOk hs n m s := fun i s hs' => hss s (List.mem_of_mem_drop hs')
  have app : ∀ {a b : List Sg}, (∀ s ∈ a, sgOk hs n m s) → (∀ s ∈ b, sgOk hs n m s) → ∀ s ∈ a ++ b, sgOk hs n m s := fun ha hb s hm => by
    rcases List.mem_append.mp hm with z | z
    · exact ha s z
    · exact hb s z
  have hh : ∀ s ∈ [Sg.head j], sgOk hs n m s := fun s hm => by rw [List.mem_singleton] at hm; subst hm; exact hj
  have lt1 : (ss.take kk).length ≤ 8 := by rw [List.length_take]; omega
  have ld1 : (ss.drop kk).length ≤ 8 := by rw [List.length_drop]; omega
  have ld2 : (ss.drop (kk + 1)).length ≤ 8 := by rw [List.length_drop]; omega
  obtain ⟨y9, y10, e6⟩ := rights L x0 (some (.dct (stK c g5 t5))) (some (.fz d)) (some (.fz (.tuple (ss.map Sg.d)))) (some (.fz (.tuple (os.map Sg.d)))) (some (.fz (.int (kk : Nat)))) (some (.fz (.tuple [Sg.d (.head j)])))
    (some (.lst ([((ss, os) : Cp), (ss, ss.take kk ++ q ++ ss.drop kk), (ss, [.head j] ++ ss), ([.head j] ++ ss, [.head j] ++ [.head j] ++ ss), (ss, ss.take kk ++ ss.drop (kk + 1))].map cpD))) x11
    [(ss, os), (ss, ss.take kk ++ q ++ ss.drop kk), (ss, [.head j] ++ ss), ([.head j] ++ ss, [.head j] ++ [.head j] ++ ss), (ss, ss.take kk ++ ss.drop (kk + 1)), (ss ++ os, os), (ss, ss)] x9 x10 (fun cc hc => by
    simp only [List.mem_cons, List.not_mem_nil, or_false] at hc
    rcases hc with rfl | rfl | rfl | rfl | rfl | rfl | rfl
    · exact ⟨hss, hos, by simp only; omega, by simp only; omega⟩
    · exact ⟨hss, app (app (mt _) hq) (md _), by simp only; omega, by simp only [List.length_append]; omega⟩
    · exact ⟨hss, app hh hss, by simp only; omega, by simp only [List.length_append, List.length_singleton]; omega⟩
    · exact ⟨app hh hss, app (app hh hh) hss, by simp only [List.length_append, List.length_singleton]; omega, by simp only [List.length_append, List.length_singleton]; omega⟩
    · exact ⟨hss, app (mt _) (md _), by simp only; omega, by simp only [List.length_append]; omega⟩
    · exact ⟨app hss hos, hos, by simp only [List.length_append]; omega, by simp only; omega⟩
    · exact ⟨hss, hss, by simp only; omega, by simp only; omega⟩)
  have c1 := cut_take (ss.map Sg.d) kk
  have c2 := cut_drop (ss.map Sg.d) kk
  have c3 := cut_drop1 (ss.map Sg.d) kk
  have v0 : (ss.map Sg.d).length ≤ 8 := by rw [List.length_map]; exact hsl
  have v1 : ((ss.map Sg.d).take kk).length ≤ 8 := by rw [List.length_take]; omega
  have v2 : ((ss.map Sg.d).drop kk).length ≤ 8 := by rw [List.length_drop]; omega
  have v3 : ((ss.map Sg.d).drop (kk + 1)).length ≤ 8 := by rw [List.length_drop]; omega
  have v4 : (os.map Sg.d).length ≤ 8 := by rw [List.length_map]; exact hol
  have v5 : (q.map Sg.d).length ≤ 1 := by rw [List.length_map]; exact hql
  have e2' : M__law_line (.dct (stK c g1 t1)) [lang hs n m, .int 8] = _ := e2
  have e3' : M__law_line (.dct (stK c g2 t2)) [lang hs n m, .int 8] = _ := e3
  have hgl2 : (ss.map Sg.d).length = ss.length := List.length_map ..
  rw [← hgl2] at e4
  have hhd : Sg.d (.head j) = .tuple [.str "head", .int (j : Nat)] := rfl
  simp only [List.map_cons, List.map_nil, cpD, List.map_append, List.map_take, List.map_drop] at e6
  generalize ss.map Sg.d = GG at *
  generalize os.map Sg.d = OO at *
  generalize q.map Sg.d = QQ at *
  generalize GG.take kk = T1 at *
  generalize GG.drop kk = T2 at *
  generalize GG.drop (kk + 1) = T3 at *
  have w1 : T1.length + QQ.length ≤ 16777216 := by omega
  have w2 : T1.length + QQ.length + T2.length ≤ 16777216 := by omega
  have w2' : T1.length + (QQ.length + T2.length) ≤ 16777216 := by omega
  have w3 : T1.length + T3.length ≤ 16777216 := by omega
  have w4 : GG.length + 1 ≤ 16777216 := by omega
  have w4' : 1 + GG.length ≤ 16777216 := by omega
  have w5 : 1 + 1 + GG.length ≤ 16777216 := by omega
  have w5' : GG.length + 1 + 1 ≤ 16777216 := by omega
  have w5'' : 2 + GG.length ≤ 16777216 := by omega
  have w6 : GG.length + OO.length ≤ 16777216 := by omega
  refine ⟨g5, t5, some (.fz d), some (.fz (lang hs n m)), some (.fz (.tuple GG)), some (.fz (.tuple OO)), some (.fz (.int (kk : Nat))), some (.fz (.tuple [Sg.d (.head j)])), some (.lst [.tuple [.tuple GG, .tuple OO], .tuple [.tuple GG, .tuple (T1 ++ QQ ++ T2)], .tuple [.tuple GG, .tuple ([Sg.d (.head j)] ++ GG)], .tuple [.tuple ([Sg.d (.head j)] ++ GG), .tuple ([Sg.d (.head j)] ++ [Sg.d (.head j)] ++ GG)], .tuple [.tuple GG, .tuple (T1 ++ T3)]]), y9, y10, M5.mono (by omega), ?_⟩
  have s2 : evalS G_law 0 p_law_2 [x0, some (.dct (stK c g t)), some (.fz d), x3, x4, x5, x6, x7, x8, x9, x10, x11] = some (.nx [x0, some (.dct (stK c g1 t1)), some (.fz d), some (.fz (lang hs n m)), x4, x5, x6, x7, x8, x9, x10, x11]) := by
    simp [p_law_2, f_law___law_tongue, mv, setOs, lim, targets, flats, tup, startE, slot, flatP, O.flat, share, frz, endO, intsOf, boolsOf, setAll, P.still, callD, callI, e_ixt, e_ixl, e_isi_int_none, e_isi_int_bool, e_isi_int_int, e_isi_int_str, e_isi_int_list, e_isi_int_tuple, e_isi_int_dict, e_isi_bool_none, e_isi_bool_bool, e_isi_bool_int, e_isi_bool_str, e_isi_bool_list, e_isi_bool_tuple, e_isi_bool_dict, e_isi_str_none, e_isi_str_bool, e_isi_str_int, e_isi_str_str, e_isi_str_list, e_isi_str_tuple, e_isi_str_dict, e_isi_tuple_none, e_isi_tuple_bool, e_isi_tuple_int, e_isi_tuple_str, e_isi_tuple_list, e_isi_tuple_tuple, e_isi_tuple_dict, e_isi_list_none, e_isi_list_bool, e_isi_list_int, e_isi_list_str, e_isi_list_list, e_isi_list_tuple, e_isi_list_dict, e_isi_dict_none, e_isi_dict_bool, e_isi_dict_int, e_isi_dict_str, e_isi_dict_list, e_isi_dict_tuple, e_isi_dict_dict, e_isN_none, e_isN_bool, e_isN_int, e_isN_str, e_isN_list, e_isN_tuple, e_isN_dict, e_tr_none, e_tr_bool, e_tr_int, e_tr_tuple, e_tr_list, e_row_tuple, e_row_list, e_sl_tuple, e_sl_list, e_set_name, e_set_tup, e_eq_ss, e_ne_ss, e_eqa_none, e_eqb_none, e_nea_none, e_neb_none, e_eqa_bool, e_eqb_bool, e_nea_bool, e_neb_bool, e_eqa_int, e_eqb_int, e_nea_int, e_neb_int, e_eqa_list, e_eqb_list, e_nea_list, e_neb_list, e_eqa_tuple, e_eqb_tuple, e_nea_tuple, e_neb_tuple, e_eqa_dict, e_eqb_dict, e_nea_dict, e_neb_dict, e_lt, e_le, e_gt, e_ge, e_isin, e_notin, e_is, e_isnt, e_add_ii, e_add_ss, e_add_tt, e_add_ll, e_sub_ii, e_mul_ii, e_mul_ti, e_mul_li, e_fdiv_ii, e_mod_ii, e_pow_ii, e_len_t, e_len_l, e_int_i, e_int_b, e_max_ii, e_min_ii, e_max_l, e_min_l, e_max_t, e_min_t, e_sum_l, e_sum_t, e_all_l, e_any_l, e_tuple_l, e_tuple_t, e_list_l, e_list_t, e_repr_d, e_divmod_ii, e_sorted_l, e_aug_add, e_aug_sub, e1]
  have s3 : evalS G_law 0 p_law_3 [x0, some (.dct (stK c g1 t1)), some (.fz d), some (.fz (lang hs n m)), x4, x5, x6, x7, x8, x9, x10, x11] = some (.nx [x0, some (.dct (stK c g3 t3)), some (.fz d), some (.fz (lang hs n m)), some (.fz (.tuple GG)), some (.fz (.tuple OO)), x6, x7, x8, x9, x10, x11]) := by
    simp [p_law_3, f_law___law_line, mv, setOs, lim, targets, flats, tup, startE, slot, flatP, O.flat, share, frz, endO, intsOf, boolsOf, setAll, P.still, callD, callI, e_ixt, e_ixl, e_isi_int_none, e_isi_int_bool, e_isi_int_int, e_isi_int_str, e_isi_int_list, e_isi_int_tuple, e_isi_int_dict, e_isi_bool_none, e_isi_bool_bool, e_isi_bool_int, e_isi_bool_str, e_isi_bool_list, e_isi_bool_tuple, e_isi_bool_dict, e_isi_str_none, e_isi_str_bool, e_isi_str_int, e_isi_str_str, e_isi_str_list, e_isi_str_tuple, e_isi_str_dict, e_isi_tuple_none, e_isi_tuple_bool, e_isi_tuple_int, e_isi_tuple_str, e_isi_tuple_list, e_isi_tuple_tuple, e_isi_tuple_dict, e_isi_list_none, e_isi_list_bool, e_isi_list_int, e_isi_list_str, e_isi_list_list, e_isi_list_tuple, e_isi_list_dict, e_isi_dict_none, e_isi_dict_bool, e_isi_dict_int, e_isi_dict_str, e_isi_dict_list, e_isi_dict_tuple, e_isi_dict_dict, e_isN_none, e_isN_bool, e_isN_int, e_isN_str, e_isN_list, e_isN_tuple, e_isN_dict, e_tr_none, e_tr_bool, e_tr_int, e_tr_tuple, e_tr_list, e_row_tuple, e_row_list, e_sl_tuple, e_sl_list, e_set_name, e_set_tup, e_eq_ss, e_ne_ss, e_eqa_none, e_eqb_none, e_nea_none, e_neb_none, e_eqa_bool, e_eqb_bool, e_nea_bool, e_neb_bool, e_eqa_int, e_eqb_int, e_nea_int, e_neb_int, e_eqa_list, e_eqb_list, e_nea_list, e_neb_list, e_eqa_tuple, e_eqb_tuple, e_nea_tuple, e_neb_tuple, e_eqa_dict, e_eqb_dict, e_nea_dict, e_neb_dict, e_lt, e_le, e_gt, e_ge, e_isin, e_notin, e_is, e_isnt, e_add_ii, e_add_ss, e_add_tt, e_add_ll, e_sub_ii, e_mul_ii, e_mul_ti, e_mul_li, e_fdiv_ii, e_mod_ii, e_pow_ii, e_len_t, e_len_l, e_int_i, e_int_b, e_max_ii, e_min_ii, e_max_l, e_min_l, e_max_t, e_min_t, e_sum_l, e_sum_t, e_all_l, e_any_l, e_tuple_l, e_tuple_t, e_list_l, e_list_t, e_repr_d, e_divmod_ii, e_sorted_l, e_aug_add, e_aug_sub, e2', e3']
  have s4 : evalS G_law 0 p_law_4 [x0, some (.dct (stK c g3 t3)), some (.fz d), some (.fz (lang hs n m)), some (.fz (.tuple GG)), some (.fz (.tuple OO)), x6, x7, x8, x9, x10, x11] = some (.nx [x0, some (.dct (stK c g4 t4)), some (.fz d), some (.fz (lang hs n m)), some (.fz (.tuple GG)), some (.fz (.tuple OO)), some (.fz (.int (kk : Nat))), x7, x8, x9, x10, x11]) := by
    simp [p_law_4, f_law___law_next, mv, setOs, lim, targets, flats, tup, startE, slot, flatP, O.flat, share, frz, endO, intsOf, boolsOf, setAll, P.still, callD, callI, e_ixt, e_ixl, e_isi_int_none, e_isi_int_bool, e_isi_int_int, e_isi_int_str, e_isi_int_list, e_isi_int_tuple, e_isi_int_dict, e_isi_bool_none, e_isi_bool_bool, e_isi_bool_int, e_isi_bool_str, e_isi_bool_list, e_isi_bool_tuple, e_isi_bool_dict, e_isi_str_none, e_isi_str_bool, e_isi_str_int, e_isi_str_str, e_isi_str_list, e_isi_str_tuple, e_isi_str_dict, e_isi_tuple_none, e_isi_tuple_bool, e_isi_tuple_int, e_isi_tuple_str, e_isi_tuple_list, e_isi_tuple_tuple, e_isi_tuple_dict, e_isi_list_none, e_isi_list_bool, e_isi_list_int, e_isi_list_str, e_isi_list_list, e_isi_list_tuple, e_isi_list_dict, e_isi_dict_none, e_isi_dict_bool, e_isi_dict_int, e_isi_dict_str, e_isi_dict_list, e_isi_dict_tuple, e_isi_dict_dict, e_isN_none, e_isN_bool, e_isN_int, e_isN_str, e_isN_list, e_isN_tuple, e_isN_dict, e_tr_none, e_tr_bool, e_tr_int, e_tr_tuple, e_tr_list, e_row_tuple, e_row_list, e_sl_tuple, e_sl_list, e_set_name, e_set_tup, e_eq_ss, e_ne_ss, e_eqa_none, e_eqb_none, e_nea_none, e_neb_none, e_eqa_bool, e_eqb_bool, e_nea_bool, e_neb_bool, e_eqa_int, e_eqb_int, e_nea_int, e_neb_int, e_eqa_list, e_eqb_list, e_nea_list, e_neb_list, e_eqa_tuple, e_eqb_tuple, e_nea_tuple, e_neb_tuple, e_eqa_dict, e_eqb_dict, e_nea_dict, e_neb_dict, e_lt, e_le, e_gt, e_ge, e_isin, e_notin, e_is, e_isnt, e_add_ii, e_add_ss, e_add_tt, e_add_ll, e_sub_ii, e_mul_ii, e_mul_ti, e_mul_li, e_fdiv_ii, e_mod_ii, e_pow_ii, e_len_t, e_len_l, e_int_i, e_int_b, e_max_ii, e_min_ii, e_max_l, e_min_l, e_max_t, e_min_t, e_sum_l, e_sum_t, e_all_l, e_any_l, e_tuple_l, e_tuple_t, e_list_l, e_list_t, e_repr_d, e_divmod_ii, e_sorted_l, e_aug_add, e_aug_sub, e4]
  have s5 : evalS G_law 0 p_law_5 [x0, some (.dct (stK c g4 t4)), some (.fz d), some (.fz (lang hs n m)), some (.fz (.tuple GG)), some (.fz (.tuple OO)), some (.fz (.int (kk : Nat))), x7, x8, x9, x10, x11] = some (.nx [x0, some (.dct (stK c g5 t5)), some (.fz d), some (.fz (lang hs n m)), some (.fz (.tuple GG)), some (.fz (.tuple OO)), some (.fz (.int (kk : Nat))), some (.fz (.tuple [Sg.d (.head j)])), x8, x9, x10, x11]) := by
    rw [hhd]
    simp [p_law_5, f_law___law_next, mv, setOs, lim, targets, flats, tup, startE, slot, flatP, O.flat, share, frz, endO, intsOf, boolsOf, setAll, P.still, callD, callI, e_ixt, e_ixl, e_isi_int_none, e_isi_int_bool, e_isi_int_int, e_isi_int_str, e_isi_int_list, e_isi_int_tuple, e_isi_int_dict, e_isi_bool_none, e_isi_bool_bool, e_isi_bool_int, e_isi_bool_str, e_isi_bool_list, e_isi_bool_tuple, e_isi_bool_dict, e_isi_str_none, e_isi_str_bool, e_isi_str_int, e_isi_str_str, e_isi_str_list, e_isi_str_tuple, e_isi_str_dict, e_isi_tuple_none, e_isi_tuple_bool, e_isi_tuple_int, e_isi_tuple_str, e_isi_tuple_list, e_isi_tuple_tuple, e_isi_tuple_dict, e_isi_list_none, e_isi_list_bool, e_isi_list_int, e_isi_list_str, e_isi_list_list, e_isi_list_tuple, e_isi_list_dict, e_isi_dict_none, e_isi_dict_bool, e_isi_dict_int, e_isi_dict_str, e_isi_dict_list, e_isi_dict_tuple, e_isi_dict_dict, e_isN_none, e_isN_bool, e_isN_int, e_isN_str, e_isN_list, e_isN_tuple, e_isN_dict, e_tr_none, e_tr_bool, e_tr_int, e_tr_tuple, e_tr_list, e_row_tuple, e_row_list, e_sl_tuple, e_sl_list, e_set_name, e_set_tup, e_eq_ss, e_ne_ss, e_eqa_none, e_eqb_none, e_nea_none, e_neb_none, e_eqa_bool, e_eqb_bool, e_nea_bool, e_neb_bool, e_eqa_int, e_eqb_int, e_nea_int, e_neb_int, e_eqa_list, e_eqb_list, e_nea_list, e_neb_list, e_eqa_tuple, e_eqb_tuple, e_nea_tuple, e_neb_tuple, e_eqa_dict, e_eqb_dict, e_nea_dict, e_neb_dict, e_lt, e_le, e_gt, e_ge, e_isin, e_notin, e_is, e_isnt, e_add_ii, e_add_ss, e_add_tt, e_add_ll, e_sub_ii, e_mul_ii, e_mul_ti, e_mul_li, e_fdiv_ii, e_mod_ii, e_pow_ii, e_len_t, e_len_l, e_int_i, e_int_b, e_max_ii, e_min_ii, e_max_l, e_min_l, e_max_t, e_min_t, e_sum_l, e_sum_t, e_all_l, e_any_l, e_tuple_l, e_tuple_t, e_list_l, e_list_t, e_repr_d, e_divmod_ii, e_sorted_l, e_aug_add, e_aug_sub, e5]
  generalize Sg.d (.head j) = HH at *
  have s6 : evalS G_law 0 p_law_6 [x0, some (.dct (stK c g5 t5)), some (.fz d), some (.fz (lang hs n m)), some (.fz (.tuple GG)), some (.fz (.tuple OO)), some (.fz (.int (kk : Nat))), some (.fz (.tuple [HH])), x8, x9, x10, x11] = some (.nx [x0, some (.dct (stK c g5 t5)), some (.fz d), some (.fz (lang hs n m)), some (.fz (.tuple GG)), some (.fz (.tuple OO)), some (.fz (.int (kk : Nat))), some (.fz (.tuple [HH])), some (.lst [.tuple [.tuple GG, .tuple OO], .tuple [.tuple GG, .tuple (T1 ++ QQ ++ T2)]]), x9, x10, x11]) := by
    have eq' := eq
    generalize hX : (if (1 : Int) < (m : Int) then (1 : Int) else (m : Int)) = X at eq'
    simp [p_law_6, mv, setOs, lim, targets, flats, tup, startE, slot, flatP, O.flat, share, frz, endO, intsOf, boolsOf, setAll, P.still, callD, callI, e_ixt, e_ixl, e_isi_int_none, e_isi_int_bool, e_isi_int_int, e_isi_int_str, e_isi_int_list, e_isi_int_tuple, e_isi_int_dict, e_isi_bool_none, e_isi_bool_bool, e_isi_bool_int, e_isi_bool_str, e_isi_bool_list, e_isi_bool_tuple, e_isi_bool_dict, e_isi_str_none, e_isi_str_bool, e_isi_str_int, e_isi_str_str, e_isi_str_list, e_isi_str_tuple, e_isi_str_dict, e_isi_tuple_none, e_isi_tuple_bool, e_isi_tuple_int, e_isi_tuple_str, e_isi_tuple_list, e_isi_tuple_tuple, e_isi_tuple_dict, e_isi_list_none, e_isi_list_bool, e_isi_list_int, e_isi_list_str, e_isi_list_list, e_isi_list_tuple, e_isi_list_dict, e_isi_dict_none, e_isi_dict_bool, e_isi_dict_int, e_isi_dict_str, e_isi_dict_list, e_isi_dict_tuple, e_isi_dict_dict, e_isN_none, e_isN_bool, e_isN_int, e_isN_str, e_isN_list, e_isN_tuple, e_isN_dict, e_tr_none, e_tr_bool, e_tr_int, e_tr_tuple, e_tr_list, e_row_tuple, e_row_list, e_sl_tuple, e_sl_list, e_set_name, e_set_tup, e_eq_ss, e_ne_ss, e_eqa_none, e_eqb_none, e_nea_none, e_neb_none, e_eqa_bool, e_eqb_bool, e_nea_bool, e_neb_bool, e_eqa_int, e_eqb_int, e_nea_int, e_neb_int, e_eqa_list, e_eqb_list, e_nea_list, e_neb_list, e_eqa_tuple, e_eqb_tuple, e_nea_tuple, e_neb_tuple, e_eqa_dict, e_eqb_dict, e_nea_dict, e_neb_dict, e_lt, e_le, e_gt, e_ge, e_isin, e_notin, e_is, e_isnt, e_add_ii, e_add_ss, e_add_tt, e_add_ll, e_sub_ii, e_mul_ii, e_mul_ti, e_mul_li, e_fdiv_ii, e_mod_ii, e_pow_ii, e_len_t, e_len_l, e_int_i, e_int_b, e_max_ii, e_min_ii, e_max_l, e_min_l, e_max_t, e_min_t, e_sum_l, e_sum_t, e_all_l, e_any_l, e_tuple_l, e_tuple_t, e_list_l, e_list_t, e_repr_d, e_divmod_ii, e_sorted_l, e_aug_add, e_aug_sub, -e_mul_ti, hX, eq', c1, c2, w1, w2, w2']
  have s7 : evalS G_law 0 p_law_7 [x0, some (.dct (stK c g5 t5)), some (.fz d), some (.fz (lang hs n m)), some (.fz (.tuple GG)), some (.fz (.tuple OO)), some (.fz (.int (kk : Nat))), some (.fz (.tuple [HH])), some (.lst [.tuple [.tuple GG, .tuple OO], .tuple [.tuple GG, .tuple (T1 ++ QQ ++ T2)]]), x9, x10, x11] = some (.nx [x0, some (.dct (stK c g5 t5)), some (.fz d), some (.fz (lang hs n m)), some (.fz (.tuple GG)), some (.fz (.tuple OO)), some (.fz (.int (kk : Nat))), some (.fz (.tuple [HH])), some (.lst [.tuple [.tuple GG, .tuple OO], .tuple [.tuple GG, .tuple (T1 ++ QQ ++ T2)], .tuple [.tuple GG, .tuple ([HH] ++ GG)], .tuple [.tuple ([HH] ++ GG), .tuple ([HH] ++ [HH] ++ GG)]]), x9, x10, x11]) := by
    simp [p_law_7, mv, setOs, lim, targets, flats, tup, startE, slot, flatP, O.flat, share, frz, endO, intsOf, boolsOf, setAll, P.still, callD, callI, e_ixt, e_ixl, e_isi_int_none, e_isi_int_bool, e_isi_int_int, e_isi_int_str, e_isi_int_list, e_isi_int_tuple, e_isi_int_dict, e_isi_bool_none, e_isi_bool_bool, e_isi_bool_int, e_isi_bool_str, e_isi_bool_list, e_isi_bool_tuple, e_isi_bool_dict, e_isi_str_none, e_isi_str_bool, e_isi_str_int, e_isi_str_str, e_isi_str_list, e_isi_str_tuple, e_isi_str_dict, e_isi_tuple_none, e_isi_tuple_bool, e_isi_tuple_int, e_isi_tuple_str, e_isi_tuple_list, e_isi_tuple_tuple, e_isi_tuple_dict, e_isi_list_none, e_isi_list_bool, e_isi_list_int, e_isi_list_str, e_isi_list_list, e_isi_list_tuple, e_isi_list_dict, e_isi_dict_none, e_isi_dict_bool, e_isi_dict_int, e_isi_dict_str, e_isi_dict_list, e_isi_dict_tuple, e_isi_dict_dict, e_isN_none, e_isN_bool, e_isN_int, e_isN_str, e_isN_list, e_isN_tuple, e_isN_dict, e_tr_none, e_tr_bool, e_tr_int, e_tr_tuple, e_tr_list, e_row_tuple, e_row_list, e_sl_tuple, e_sl_list, e_set_name, e_set_tup, e_eq_ss, e_ne_ss, e_eqa_none, e_eqb_none, e_nea_none, e_neb_none, e_eqa_bool, e_eqb_bool, e_nea_bool, e_neb_bool, e_eqa_int, e_eqb_int, e_nea_int, e_neb_int, e_eqa_list, e_eqb_list, e_nea_list, e_neb_list, e_eqa_tuple, e_eqb_tuple, e_nea_tuple, e_neb_tuple, e_eqa_dict, e_eqb_dict, e_nea_dict, e_neb_dict, e_lt, e_le, e_gt, e_ge, e_isin, e_notin, e_is, e_isnt, e_add_ii, e_add_ss, e_add_tt, e_add_ll, e_sub_ii, e_mul_ii, e_mul_ti, e_mul_li, e_fdiv_ii, e_mod_ii, e_pow_ii, e_len_t, e_len_l, e_int_i, e_int_b, e_max_ii, e_min_ii, e_max_l, e_min_l, e_max_t, e_min_t, e_sum_l, e_sum_t, e_all_l, e_any_l, e_tuple_l, e_tuple_t, e_list_l, e_list_t, e_repr_d, e_divmod_ii, e_sorted_l, e_aug_add, e_aug_sub, w4, w4', w5, w5', w5'']
  have s8 : evalS G_law 0 p_law_8 [x0, some (.dct (stK c g5 t5)), some (.fz d), some (.fz (lang hs n m)), some (.fz (.tuple GG)), some (.fz (.tuple OO)), some (.fz (.int (kk : Nat))), some (.fz (.tuple [HH])), some (.lst [.tuple [.tuple GG, .tuple OO], .tuple [.tuple GG, .tuple (T1 ++ QQ ++ T2)], .tuple [.tuple GG, .tuple ([HH] ++ GG)], .tuple [.tuple ([HH] ++ GG), .tuple ([HH] ++ [HH] ++ GG)]]), x9, x10, x11] = some (.nx [x0, some (.dct (stK c g5 t5)), some (.fz d), some (.fz (lang hs n m)), some (.fz (.tuple GG)), some (.fz (.tuple OO)), some (.fz (.int (kk : Nat))), some (.fz (.tuple [HH])), some (.lst [.tuple [.tuple GG, .tuple OO], .tuple [.tuple GG, .tuple (T1 ++ QQ ++ T2)], .tuple [.tuple GG, .tuple ([HH] ++ GG)], .tuple [.tuple ([HH] ++ GG), .tuple ([HH] ++ [HH] ++ GG)], .tuple [.tuple GG, .tuple (T1 ++ T3)]]), x9, x10, x11]) := by
    simp [p_law_8, mv, setOs, lim, targets, flats, tup, startE, slot, flatP, O.flat, share, frz, endO, intsOf, boolsOf, setAll, P.still, callD, callI, e_ixt, e_ixl, e_isi_int_none, e_isi_int_bool, e_isi_int_int, e_isi_int_str, e_isi_int_list, e_isi_int_tuple, e_isi_int_dict, e_isi_bool_none, e_isi_bool_bool, e_isi_bool_int, e_isi_bool_str, e_isi_bool_list, e_isi_bool_tuple, e_isi_bool_dict, e_isi_str_none, e_isi_str_bool, e_isi_str_int, e_isi_str_str, e_isi_str_list, e_isi_str_tuple, e_isi_str_dict, e_isi_tuple_none, e_isi_tuple_bool, e_isi_tuple_int, e_isi_tuple_str, e_isi_tuple_list, e_isi_tuple_tuple, e_isi_tuple_dict, e_isi_list_none, e_isi_list_bool, e_isi_list_int, e_isi_list_str, e_isi_list_list, e_isi_list_tuple, e_isi_list_dict, e_isi_dict_none, e_isi_dict_bool, e_isi_dict_int, e_isi_dict_str, e_isi_dict_list, e_isi_dict_tuple, e_isi_dict_dict, e_isN_none, e_isN_bool, e_isN_int, e_isN_str, e_isN_list, e_isN_tuple, e_isN_dict, e_tr_none, e_tr_bool, e_tr_int, e_tr_tuple, e_tr_list, e_row_tuple, e_row_list, e_sl_tuple, e_sl_list, e_set_name, e_set_tup, e_eq_ss, e_ne_ss, e_eqa_none, e_eqb_none, e_nea_none, e_neb_none, e_eqa_bool, e_eqb_bool, e_nea_bool, e_neb_bool, e_eqa_int, e_eqb_int, e_nea_int, e_neb_int, e_eqa_list, e_eqb_list, e_nea_list, e_neb_list, e_eqa_tuple, e_eqb_tuple, e_nea_tuple, e_neb_tuple, e_eqa_dict, e_eqb_dict, e_nea_dict, e_neb_dict, e_lt, e_le, e_gt, e_ge, e_isin, e_notin, e_is, e_isnt, e_add_ii, e_add_ss, e_add_tt, e_add_ll, e_sub_ii, e_mul_ii, e_mul_ti, e_mul_li, e_fdiv_ii, e_mod_ii, e_pow_ii, e_len_t, e_len_l, e_int_i, e_int_b, e_max_ii, e_min_ii, e_max_l, e_min_l, e_max_t, e_min_t, e_sum_l, e_sum_t, e_all_l, e_any_l, e_tuple_l, e_tuple_t, e_list_l, e_list_t, e_repr_d, e_divmod_ii, e_sorted_l, e_aug_add, e_aug_sub, c1, c3, w3, isLst, appO]
  have s10 : evalS G_law 0 p_law_10 [x0, some (.dct (stK c g5 t5)), some (.fz d), some (.fz (lang hs n m)), some (.fz (.tuple GG)), some (.fz (.tuple OO)), some (.fz (.int (kk : Nat))), some (.fz (.tuple [HH])), some (.lst [.tuple [.tuple GG, .tuple OO], .tuple [.tuple GG, .tuple (T1 ++ QQ ++ T2)], .tuple [.tuple GG, .tuple ([HH] ++ GG)], .tuple [.tuple ([HH] ++ GG), .tuple ([HH] ++ [HH] ++ GG)], .tuple [.tuple GG, .tuple (T1 ++ T3)]]), x9, x10, x11] = some (.nx [x0, some (.dct (stK c g5 t5)), some (.fz d), some (.fz (lang hs n m)), some (.fz (.tuple GG)), some (.fz (.tuple OO)), some (.fz (.int (kk : Nat))), some (.fz (.tuple [HH])), some (.lst [.tuple [.tuple GG, .tuple OO], .tuple [.tuple GG, .tuple (T1 ++ QQ ++ T2)], .tuple [.tuple GG, .tuple ([HH] ++ GG)], .tuple [.tuple ([HH] ++ GG), .tuple ([HH] ++ [HH] ++ GG)], .tuple [.tuple GG, .tuple (T1 ++ T3)]]), y9, y10, x11]) := by
    generalize T1 ++ QQ ++ T2 = Y1 at *
    generalize T1 ++ T3 = Y2 at *
    generalize [HH] ++ [HH] ++ GG = Y3 at *
    generalize [HH] ++ GG = Y4 at *
    generalize hY5 : GG ++ OO = Y5 at *
    simp [p_law_10, mv, setOs, lim, targets, flats, tup, startE, slot, flatP, O.flat, share, frz, endO, intsOf, boolsOf, setAll, P.still, callD, callI, e_ixt, e_ixl, e_isi_int_none, e_isi_int_bool, e_isi_int_int, e_isi_int_str, e_isi_int_list, e_isi_int_tuple, e_isi_int_dict, e_isi_bool_none, e_isi_bool_bool, e_isi_bool_int, e_isi_bool_str, e_isi_bool_list, e_isi_bool_tuple, e_isi_bool_dict, e_isi_str_none, e_isi_str_bool, e_isi_str_int, e_isi_str_str, e_isi_str_list, e_isi_str_tuple, e_isi_str_dict, e_isi_tuple_none, e_isi_tuple_bool, e_isi_tuple_int, e_isi_tuple_str, e_isi_tuple_list, e_isi_tuple_tuple, e_isi_tuple_dict, e_isi_list_none, e_isi_list_bool, e_isi_list_int, e_isi_list_str, e_isi_list_list, e_isi_list_tuple, e_isi_list_dict, e_isi_dict_none, e_isi_dict_bool, e_isi_dict_int, e_isi_dict_str, e_isi_dict_list, e_isi_dict_tuple, e_isi_dict_dict, e_isN_none, e_isN_bool, e_isN_int, e_isN_str, e_isN_list, e_isN_tuple, e_isN_dict, e_tr_none, e_tr_bool, e_tr_int, e_tr_tuple, e_tr_list, e_row_tuple, e_row_list, e_sl_tuple, e_sl_list, e_set_name, e_set_tup, e_eq_ss, e_ne_ss, e_eqa_none, e_eqb_none, e_nea_none, e_neb_none, e_eqa_bool, e_eqb_bool, e_nea_bool, e_neb_bool, e_eqa_int, e_eqb_int, e_nea_int, e_neb_int, e_eqa_list, e_eqb_list, e_nea_list, e_neb_list, e_eqa_tuple, e_eqb_tuple, e_nea_tuple, e_neb_tuple, e_eqa_dict, e_eqb_dict, e_nea_dict, e_neb_dict, e_lt, e_le, e_gt, e_ge, e_isin, e_notin, e_is, e_isnt, e_add_ii, e_add_ss, e_add_tt, e_add_ll, e_sub_ii, e_mul_ii, e_mul_ti, e_mul_li, e_fdiv_ii, e_mod_ii, e_pow_ii, e_len_t, e_len_l, e_int_i, e_int_b, e_max_ii, e_min_ii, e_max_l, e_min_l, e_max_t, e_min_t, e_sum_l, e_sum_t, e_all_l, e_any_l, e_tuple_l, e_tuple_t, e_list_l, e_list_t, e_repr_d, e_divmod_ii, e_sorted_l, e_aug_add, e_aug_sub, targets, w6, hY5, e6]
  show evalSs G_law 0 p_law_11 [x0, some (.dct (stK c g t)), some (.fz d), x3, x4, x5, x6, x7, x8, x9, x10, x11] = _
  unfold p_law_11
  rw [seq_nx s2, seq_nx s3, seq_nx s4, seq_nx s5, seq_nx s6, seq_nx s7, seq_nx s8, seq_nx s10]
  rfl
end NW
end
section
set_option Elab.async false
set_option linter.all false
set_option maxRecDepth 100000
set_option maxHeartbeats 2000000
namespace NW
open PySem L2
theorem law_turns {c : List Int} (x0 x11 : Option O) : ∀ (items : List D) {k : Nat} {g : List Int} {t : Int} (x2 x3 x4 x5 x6 x7 x8 x9 x10 : Option O), Mach k c g t → k + 50000 + 1000 * items.length < 400000 →
    ∃ (g' : List Int) (t' : Int) (y2 y3 y4 y5 y6 y7 y8 y9 y10 : Option O), forL (bodyF (setT (.name 2)) (evalSs G_law 0 p_law_11)) items [x0, some (.dct (stK c g t)), x2, x3, x4, x5, x6, x7, x8, x9, x10, x11] =
      some (.nx [x0, some (.dct (stK c g' t')), y2, y3, y4, y5, y6, y7, y8, y9, y10, x11])
  | [], k, g, t, x2, x3, x4, x5, x6, x7, x8, x9, x10, M, _ => ⟨g, t, x2, x3, x4, x5, x6, x7, x8, x9, x10, rfl⟩
  | d :: ds, k, g, t, x2, x3, x4, x5, x6, x7, x8, x9, x10, M, hk => by
    rw [List.length_cons] at hk
    obtain ⟨g1, t1, y2, y3, y4, y5, y6, y7, y8, y9, y10, M1, e1⟩ := law_turn M (by omega) d x0 x2 x3 x4 x5 x6 x7 x8 x9 x10 x11
    obtain ⟨g2, t2, z2, z3, z4, z5, z6, z7, z8, z9, z10, e2⟩ := law_turns x0 x11 ds y2 y3 y4 y5 y6 y7 y8 y9 y10 M1 (by omega)
    refine ⟨g2, t2, z2, z3, z4, z5, z6, z7, z8, z9, z10, ?_⟩
    unfold forL
    rw [e1]
    exact e2
/-! by hand -/
def hsH : Hs := [(.quiet, 0), (.on, 1)]
theorem LH : LOk hsH 2 0 := ⟨by decide, by decide, fun r hr => by
  simp only [hsH, List.mem_cons, List.not_mem_nil, or_false] at hr
  rcases hr with rfl | rfl
  · exact ⟨by decide, fun h => by simp at h⟩
  · exact ⟨by decide, fun _ => by decide⟩, by decide, by decide, by decide⟩
theorem put_same (c b : D) : putKd [(c, b)] c b = [(c, b)] := by simp [putKd]
theorem ends_const {hs : Hs} {ss : List Sg} {c : D} : ∀ (l : List D), (∀ d ∈ l, endD hs ss d = c) → ends hs ss l [(c, .bool true)] = [(c, .bool true)]
  | [], _ => rfl
  | d :: l, h => by
    show ends hs ss l (putKd [(c, .bool true)] (endD hs ss d) (.bool true)) = _
    rw [h d List.mem_cons_self, put_same]
    exact ends_const l fun x hx => h x (List.mem_cons_of_mem _ hx)
theorem ends_one {hs : Hs} {ss : List Sg} {c : D} {l : List D} (hl : l ≠ []) (h : ∀ d ∈ l, endD hs ss d = c) : (ends hs ss l []).length = 1 := by
  cases l with
  | nil => exact absurd rfl hl
  | cons d l =>
    show (ends hs ss l (putKd [] (endD hs ss d) (.bool true))).length = 1
    rw [h d List.mem_cons_self, show putKd [] c (.bool true) = [(c, .bool true)] from rfl, ends_const l fun x hx => h x (List.mem_cons_of_mem _ hx)]
    rfl
theorem put_keys (acc : List (D × D)) (q d : D) : (∃ p ∈ putKd acc q d, nkey p.1 = nkey q) ∧ ∀ p ∈ acc, ∃ p' ∈ putKd acc q d, nkey p'.1 = nkey p.1 := by
  unfold putKd
  by_cases h : (acc.any fun p => decide (nkey p.1 = nkey q)) = true
  · rw [if_pos h]
    obtain ⟨p, hp, e⟩ := List.any_eq_true.mp h
    have e : nkey p.1 = nkey q := by simpa using e
    refine ⟨⟨_, List.mem_map.mpr ⟨p, hp, rfl⟩, by rw [if_pos e]; exact e⟩, fun p' hp' => ⟨_, List.mem_map.mpr ⟨p', hp', rfl⟩, ?_⟩⟩
    split <;> rfl
  · rw [if_neg h]
    exact ⟨⟨(q, d), List.mem_append_right _ (by simp), rfl⟩, fun p' hp' => ⟨p', List.mem_append_left _ hp', rfl⟩⟩
theorem ends_keys {hs : Hs} {ss : List Sg} : ∀ (l : List D) (acc : List (D × D)), (∀ d ∈ l, ∃ p ∈ ends hs ss l acc, nkey p.1 = nkey (endD hs ss d)) ∧ ∀ p ∈ acc, ∃ p' ∈ ends hs ss l acc, nkey p'.1 = nkey p.1
  | [], acc => ⟨(fun d hd => nomatch hd), fun p hp => ⟨p, hp, rfl⟩⟩
  | d :: l, acc => by
    obtain ⟨⟨p, hp, e⟩, h2⟩ := put_keys acc (endD hs ss d) (.bool true)
    obtain ⟨i1, i2⟩ := ends_keys (hs := hs) (ss := ss) l (putKd acc (endD hs ss d) (.bool true))
    have he : ends hs ss (d :: l) acc = ends hs ss l (putKd acc (endD hs ss d) (.bool true)) := rfl
    rw [he]
    refine ⟨fun x hx => ?_, fun p hp => ?_⟩
    · rcases List.mem_cons.mp hx with rfl | hx
      · obtain ⟨p', hp', e'⟩ := i2 p hp
        exact ⟨p', hp', e'.trans e⟩
      · exact i1 x hx
    · obtain ⟨p1, hp1, e1⟩ := h2 p hp
      obtain ⟨p2, hp2, e2⟩ := i2 p1 hp1
      exact ⟨p2, hp2, e2.trans e1⟩
theorem ends_two {hs : Hs} {ss : List Sg} {l : List D} {a b : D} (ha : a ∈ l) (hb : b ∈ l) (h : nkey (endD hs ss a) ≠ nkey (endD hs ss b)) : (ends hs ss l []).length ≠ 1 := by
  intro h1
  obtain ⟨i1, _⟩ := ends_keys (hs := hs) (ss := ss) l []
  obtain ⟨p, hp, e⟩ := i1 a ha
  obtain ⟨q, hq, e'⟩ := i1 b hb
  obtain ⟨x, hx⟩ := List.length_eq_one_iff.mp h1
  rw [hx, List.mem_singleton] at hp hq
  subst hp
  subst hq
  exact h (e.symm.trans e')
theorem in_st {on : List Int} (h : on ∈ lots 2) : stD (none, []) on ∈ stsS hsH 2 := by
  refine stsS_mem.mpr ?_
  unfold sts
  simp only [List.mem_flatten, List.mem_map]
  exact ⟨_, ⟨(none, []), List.mem_cons_self, rfl⟩, List.mem_map.mpr ⟨_, h, rfl⟩⟩
theorem in0 : ([] : List Int) ∈ lots 2 := by decide
theorem in1 : ([0] : List Int) ∈ lots 2 := by decide
theorem hall_0 : M_does_settle [.tuple [.tuple [.tuple [.str "quiet", .int 0], .tuple [.str "on", .int 1]], .int 2, .int 0], .tuple [.tuple [.str "head", .int 0]]] = some (.ok (.bool true)) := by
  have e := ev_does_settle LH (ss := [.head 0]) (fun s hs => by rw [List.mem_singleton] at hs; subst hs; exact (show 0 < hsH.length by decide)) (by decide)
  have h1 : (ends hsH [.head 0] (stsS hsH 2) []).length = 1 := by
    refine ends_one (c := stD (none, []) []) (fun z => ?_) fun d hd => ?_
    · have := in_st in0; rw [z] at this; cases this
    · obtain ⟨p, on, rfl, hp, ho⟩ := stsS_ok LH hd
      rw [end_st]
      simp [rd, tk, rw', hsH, nb]
  rw [decide_eq_true h1] at e
  exact e
theorem hall_1 : M_does_settle [.tuple [.tuple [.tuple [.str "quiet", .int 0], .tuple [.str "on", .int 1]], .int 2, .int 0], .tuple [.tuple [.str "head", .int 1]]] = some (.ok (.bool false)) := by
  have e := ev_does_settle LH (ss := [.head 1]) (fun s hs => by rw [List.mem_singleton] at hs; subst hs; exact (show 1 < hsH.length by decide)) (by decide)
  have h1 : (ends hsH [.head 1] (stsS hsH 2) []).length ≠ 1 := by
    refine ends_two (in_st in0) (in_st in1) fun z => ?_
    rw [end_st, end_st] at z
    have q0 : rd hsH (none, []) [] [.head 1] = (((some 1, []), []), []) := by simp [rd, tk, rw', hsH, nb]
    have q1 : rd hsH (none, []) [0] [.head 1] = (((some 1, []), [0]), []) := by simp [rd, tk, rw', hsH, nb]
    rw [q0, q1] at z
    obtain ⟨i, ei, hi⟩ := nkey_st (some 1, []) []
    obtain ⟨j, ej, hj⟩ := nkey_st (some 1, []) [0]
    rw [hi, hj] at z
    simp at z
  rw [decide_eq_false h1] at e
  exact e
theorem hall_2 : M_are_alike [.tuple [.tuple [.tuple [.str "quiet", .int 0], .tuple [.str "on", .int 1]], .int 2, .int 0], .tuple [], .tuple []] = some (.ok (.bool true)) := by
  have hno : ∀ s ∈ ([] : List Sg), sgOk hsH 2 0 s := fun s hs => nomatch hs
  have e := ev_are_alike LH (ss := []) (tt := []) hno hno (by decide) (by decide)
  have h1 : prt hsH 2 [] [] = none := by
    unfold prt
    rw [List.find?_eq_none]
    intro d hd
    have hf := fine_end LH hd hno
    have h1 := hf.shaped (by omega)
    have h2 := hf.eq (by omega)
    unfold eqD at h2
    rw [h1] at h2
    simp only [Bool.and_self, if_true, Option.some.injEq] at h2
    simp [dif, h2]
  rw [h1] at e
  exact e
theorem law_true (ns : List Int) (h : ns.length ≤ 63) : M_law [.list (ns.map .int)] = some (.ok (.bool true)) := by
  have hb := ev_begun ns h
  generalize hG : ns.filter (fun x => decide (10 ^ 18 ≤ x)) = gs at hb
  have hgl : gs.length ≤ 63 := by rw [← hG]; exact Nat.le_trans (List.length_filter_le _ _) h
  have M0 : Mach 0 ns gs 0 := ⟨h, hgl, by omega, by omega⟩
  have hmin : (if (6 : Int) < (ns.length : Int) then 6 else (ns.length : Int)) = ((min ns.length 6 : Nat) : Int) := by split <;> omega
  have hq : min ns.length 6 ≤ 6 := by omega
  generalize min ns.length 6 = q at hmin hq
  obtain ⟨g', s', y2, y3, y4, y5, y6, y7, y8, y9, y10, e⟩ := law_turns (some (.fz (.list (ns.map .int)))) none (rangeD 0 (3 + q)) none none none none none none none none none M0 (by rw [rangeD_length]; omega)
  have q1 : rngOk (3 + (q : Int)) = true := rngOk_of (by omega) (by omega)
  have hn : (3 + (q : Int)).toNat = 3 + q := by omega
  have hmin' : (if (ns.length : Int) ≤ 6 then (ns.length : Int) else 6) = (q : Int) := by rw [← hmin]; split <;> split <;> omega
  have h0 := hall_0
  have h1 := hall_1
  have h2 := hall_2
  unfold M_law
  simp [runPure, runIo, runMk, b_law, p_law_1, p_law_2, p_law_3, p_law_4, p_law_5, p_law_6, p_law_7, p_law_8, p_law_10, p_law_12, p_law_13, p_law_14, f_law___law_begun, f_law___law_tongue, f_law___law_next, f_law__does_settle, f_law__are_alike, f_law___law_line, f_law___law_right, mv, setOs, lim, targets, flats, tup, startE, slot, flatP, O.flat, share, frz, endO, intsOf, boolsOf, setAll, P.still, callD, callI, e_ixt, e_ixl, e_isi_int_none, e_isi_int_bool, e_isi_int_int, e_isi_int_str, e_isi_int_list, e_isi_int_tuple, e_isi_int_dict, e_isi_bool_none, e_isi_bool_bool, e_isi_bool_int, e_isi_bool_str, e_isi_bool_list, e_isi_bool_tuple, e_isi_bool_dict, e_isi_str_none, e_isi_str_bool, e_isi_str_int, e_isi_str_str, e_isi_str_list, e_isi_str_tuple, e_isi_str_dict, e_isi_tuple_none, e_isi_tuple_bool, e_isi_tuple_int, e_isi_tuple_str, e_isi_tuple_list, e_isi_tuple_tuple, e_isi_tuple_dict, e_isi_list_none, e_isi_list_bool, e_isi_list_int, e_isi_list_str, e_isi_list_list, e_isi_list_tuple, e_isi_list_dict, e_isi_dict_none, e_isi_dict_bool, e_isi_dict_int, e_isi_dict_str, e_isi_dict_list, e_isi_dict_tuple, e_isi_dict_dict, e_isN_none, e_isN_bool, e_isN_int, e_isN_str, e_isN_list, e_isN_tuple, e_isN_dict, e_tr_none, e_tr_bool, e_tr_int, e_tr_tuple, e_tr_list, e_row_tuple, e_row_list, e_sl_tuple, e_sl_list, e_set_name, e_set_tup, e_eq_ss, e_ne_ss, e_eqa_none, e_eqb_none, e_nea_none, e_neb_none, e_eqa_bool, e_eqb_bool, e_nea_bool, e_neb_bool, e_eqa_int, e_eqb_int, e_nea_int, e_neb_int, e_eqa_list, e_eqb_list, e_nea_list, e_neb_list, e_eqa_tuple, e_eqb_tuple, e_nea_tuple, e_neb_tuple, e_eqa_dict, e_eqb_dict, e_nea_dict, e_neb_dict, e_lt, e_le, e_gt, e_ge, e_isin, e_notin, e_is, e_isnt, e_add_ii, e_add_ss, e_add_tt, e_add_ll, e_sub_ii, e_mul_ii, e_mul_ti, e_mul_li, e_fdiv_ii, e_mod_ii, e_pow_ii, e_len_t, e_len_l, e_int_i, e_int_b, e_max_ii, e_min_ii, e_max_l, e_min_l, e_max_t, e_min_t, e_sum_l, e_sum_t, e_all_l, e_any_l, e_tuple_l, e_tuple_t, e_list_l, e_list_t, e_repr_d, e_divmod_ii, e_sorted_l, e_aug_add, e_aug_sub, hb, hmin, hmin', q1, hn, targets, e, h0, h1, h2]
end NW
end
section
namespace NW
open PySem L2 PyProof.Rows
def top (i : Nat) : Stmt := PySem.Challenge.pw_notewire_k06_whole_likes.main.body.getD i (.Pass ⟨0, 0, 0, 0⟩)
theorem m__law_begun : mSs n__law_begun b__law_begun (defScope (top 36)) (fun _ => true) (defBody (top 36)) = true := by decide +kernel
theorem s__law_begun : FnScope n__law_begun ["_law_script"] (defScope (top 36)) := scope_by (by decide +kernel)
theorem m__law_next : mSs n__law_next b__law_next (defScope (top 37)) (fun _ => true) (defBody (top 37)) = true := by decide +kernel
theorem s__law_next : FnScope n__law_next ["_law_m", "_law_total"] (defScope (top 37)) := scope_by (by decide +kernel)
theorem m__law_tongue : mSs n__law_tongue b__law_tongue (defScope (top 38)) (fun _ => true) (defBody (top 38)) = true := by decide +kernel
theorem s__law_tongue : FnScope n__law_tongue ["_law_m", "_law_total", "_law_notes"] (defScope (top 38)) := scope_by (by decide +kernel)
theorem m_is_whole : mSs n_is_whole b_is_whole (defScope (top 16)) (fun _ => true) (defBody (top 16)) = true := by decide +kernel
theorem s_is_whole : FnScope n_is_whole ["thing", "least", "most"] (defScope (top 16)) := scope_by (by decide +kernel)
theorem m_is_head : mSs n_is_head b_is_head (defScope (top 17)) (fun _ => true) (defBody (top 17)) = true := by decide +kernel
theorem s_is_head : FnScope n_is_head ["thing"] (defScope (top 17)) := scope_by (by decide +kernel)
theorem m_need_language : mSs n_need_language b_need_language (defScope (top 18)) (fun _ => true) (defBody (top 18)) = true := by decide +kernel
theorem s_need_language : FnScope n_need_language ["thing"] (defScope (top 18)) := scope_by (by decide +kernel)
theorem m_signs_of : mSs n_signs_of b_signs_of (defScope (top 20)) (fun _ => true) (defBody (top 20)) = true := by decide +kernel
theorem s_signs_of : FnScope n_signs_of ["language"] (defScope (top 20)) := scope_by (by decide +kernel)
theorem m_is_sign : mSs n_is_sign b_is_sign (defScope (top 21)) (fun _ => true) (defBody (top 21)) = true := by decide +kernel
theorem s_is_sign : FnScope n_is_sign ["language", "thing"] (defScope (top 21)) := scope_by (by decide +kernel)
theorem m_need_stream : mSs n_need_stream b_need_stream (defScope (top 22)) (fun _ => true) (defBody (top 22)) = true := by decide +kernel
theorem s_need_stream : FnScope n_need_stream ["language", "stream"] (defScope (top 22)) := scope_by (by decide +kernel)
theorem m_long_of : mSs n_long_of b_long_of (defScope (top 19)) (fun _ => true) (defBody (top 19)) = true := by decide +kernel
theorem s_long_of : FnScope n_long_of ["language", "head"] (defScope (top 19)) := scope_by (by decide +kernel)
theorem m_taken : mSs n_taken b_taken (defScope (top 24)) (fun _ => true) (defBody (top 24)) = true := by decide +kernel
theorem s_taken : FnScope n_taken ["language", "head", "got", "sign"] (defScope (top 24)) := scope_by (by decide +kernel)
theorem m_notes_behind : mSs n_notes_behind b_notes_behind (defScope (top 25)) (fun _ => true) (defBody (top 25)) = true := by decide +kernel
theorem s_notes_behind : FnScope n_notes_behind ["language", "on", "message"] (defScope (top 25)) := scope_by (by decide +kernel)
theorem m_read_so : mSs n_read_so b_read_so (defScope (top 26)) (fun _ => true) (defBody (top 26)) = true := by decide +kernel
theorem s_read_so : FnScope n_read_so ["language", "standing", "stream"] (defScope (top 26)) := scope_by (by decide +kernel)
theorem m_places_of : mSs n_places_of b_places_of (defScope (top 27)) (fun _ => true) (defBody (top 27)) = true := by decide +kernel
theorem s_places_of : FnScope n_places_of ["language"] (defScope (top 27)) := scope_by (by decide +kernel)
theorem m_standings_of : mSs n_standings_of b_standings_of (defScope (top 28)) (fun _ => true) (defBody (top 28)) = true := by decide +kernel
theorem s_standings_of : FnScope n_standings_of ["language"] (defScope (top 28)) := scope_by (by decide +kernel)
theorem m_does_settle : mSs n_does_settle b_does_settle (defScope (top 34)) (fun _ => true) (defBody (top 34)) = true := by decide +kernel
theorem s_does_settle : FnScope n_does_settle ["language", "stream"] (defScope (top 34)) := scope_by (by decide +kernel)
theorem m_need_both : mSs n_need_both b_need_both (defScope (top 30)) (fun _ => true) (defBody (top 30)) = true := by decide +kernel
theorem s_need_both : FnScope n_need_both ["language", "stream", "other"] (defScope (top 30)) := scope_by (by decide +kernel)
theorem m_parting : mSs n_parting b_parting (defScope (top 31)) (fun _ => true) (defBody (top 31)) = true := by decide +kernel
theorem s_parting : FnScope n_parting ["language", "stream", "other"] (defScope (top 31)) := scope_by (by decide +kernel)
theorem m_are_alike : mSs n_are_alike b_are_alike (defScope (top 32)) (fun _ => true) (defBody (top 32)) = true := by decide +kernel
theorem s_are_alike : FnScope n_are_alike ["language", "stream", "other"] (defScope (top 32)) := scope_by (by decide +kernel)
theorem m__law_line : mSs n__law_line b__law_line (defScope (top 39)) (fun _ => true) (defBody (top 39)) = true := by decide +kernel
theorem s__law_line : FnScope n__law_line ["_law_m", "_law_tongue_here", "_law_total"] (defScope (top 39)) := scope_by (by decide +kernel)
theorem m__law_standings : mSs n__law_standings b__law_standings (defScope (top 43)) (fun _ => true) (defBody (top 43)) = true := by decide +kernel
theorem s__law_standings : FnScope n__law_standings ["_law_tongue_here"] (defScope (top 43)) := scope_by (by decide +kernel)
theorem m_part : mSs n_part b_part (defScope (top 33)) (fun _ => true) (defBody (top 33)) = true := by decide +kernel
theorem s_part : FnScope n_part ["language", "stream", "other"] (defScope (top 33)) := scope_by (by decide +kernel)
theorem m__law_taken : mSs n__law_taken b__law_taken (defScope (top 40)) (fun _ => true) (defBody (top 40)) = true := by decide +kernel
theorem s__law_taken : FnScope n__law_taken ["_law_tongue_here", "_law_here", "_law_token"] (defScope (top 40)) := scope_by (by decide +kernel)
theorem m__law_lit : mSs n__law_lit b__law_lit (defScope (top 41)) (fun _ => true) (defBody (top 41)) = true := by decide +kernel
theorem s__law_lit : FnScope n__law_lit ["_law_tongue_here", "_law_lit_here", "_law_message"] (defScope (top 41)) := scope_by (by decide +kernel)
theorem m__law_read : mSs n__law_read b__law_read (defScope (top 42)) (fun _ => true) (defBody (top 42)) = true := by decide +kernel
theorem s__law_read : FnScope n__law_read ["_law_tongue_here", "_law_standing", "_law_line_here"] (defScope (top 42)) := scope_by (by decide +kernel)
theorem m__law_right : mSs n__law_right b__law_right (defScope (top 44)) (fun _ => true) (defBody (top 44)) = true := by decide +kernel
theorem s__law_right : FnScope n__law_right ["_law_tongue_here", "_law_line_here", "_law_other"] (defScope (top 44)) := scope_by (by decide +kernel)
theorem m_law : mSs n_law b_law (defScope (top 45)) (fun _ => true) (defBody (top 45)) = true := by decide +kernel
theorem s_law : FnScope n_law ["_law_script"] (defScope (top 45)) := scope_by (by decide +kernel)
theorem all_mk {P : Program} {w : World} {K : PySem.W.Frag} {h : Heap} {mg : Str → Option Value} {fa f1 f2 f3 f4 f5 f6 f7 f8 f9 f10 f11 f12 f13 f14 f15 f16 f17 f18 f19 f20 f21 f22 f23 f24 f25 f26 f27 : Addr} (X : K.In h) (G : h.Ns mainGlobals mg) (hfa : mg "law" = some (.ref fa))
    {od1 an1 od2 an2 od3 an3 od4 an4 od5 an5 od6 an6 od7 an7 od8 an8 od9 an9 od10 an10 od11 an11 od12 an12 od13 an13 od14 an14 od15 an15 od16 an16 od17 an17 od18 an18 od19 an19 od20 an20 od21 an21 od22 an22 od23 an23 od24 an24 od25 an25 od26 an26 od27 an27 : Option Addr} {sl1 sl2 sl3 sl4 sl5 sl6 sl7 sl8 sl9 sl10 sl11 sl12 sl13 sl14 sl15 sl16 sl17 sl18 sl19 sl20 sl21 sl22 sl23 sl24 sl25 sl26 sl27 : Array (Option Value)} {oc1 kV1 dc1 pm1 cd1 ct1 oc2 kV2 dc2 pm2 cd2 ct2 oc3 kV3 dc3 pm3 cd3 ct3 oc4 kV4 dc4 pm4 cd4 ct4 oc5 kV5 dc5 pm5 cd5 ct5 oc6 kV6 dc6 pm6 cd6 ct6 oc7 kV7 dc7 pm7 cd7 ct7 oc8 kV8 dc8 pm8 cd8 ct8 oc9 kV9 dc9 pm9 cd9 ct9 oc10 kV10 dc10 pm10 cd10 ct10 oc11 kV11 dc11 pm11 cd11 ct11 oc12 kV12 dc12 pm12 cd12 ct12 oc13 kV13 dc13 pm13 cd13 ct13 oc14 kV14 dc14 pm14 cd14 ct14 oc15 kV15 dc15 pm15 cd15 ct15 oc16 kV16 dc16 pm16 cd16 ct16 oc17 kV17 dc17 pm17 cd17 ct17 oc18 kV18 dc18 pm18 cd18 ct18 oc19 kV19 dc19 pm19 cd19 ct19 oc20 kV20 dc20 pm20 cd20 ct20 oc21 kV21 dc21 pm21 cd21 ct21 oc22 kV22 dc22 pm22 cd22 ct22 oc23 kV23 dc23 pm23 cd23 ct23 oc24 kV24 dc24 pm24 cd24 ct24 oc25 kV25 dc25 pm25 cd25 ct25 oc26 kV26 dc26 pm26 cd26 ct26 oc27 kV27 dc27 pm27 cd27 ct27 : Value}
    {t0 t1 t2 t3 t4 t5 t6 t7 t8 t9 t10 t11 : Tok}
    (a1 : PySem.W.nsIn K mainGlobals "_law_begun" = some (some (.ref f1))) (l1 : K.lookup f1 = some ⟨oc1, od1, .func (PySem.W.fnOf "_law_begun" "_law_begun" (defArgs (top 36)) (defBody (top 36)) (defScope (top 36)) .none kV1 dc1 pm1 an1 cd1 ct1), sl1⟩) (c1 : PySem.W.codeIn K cd1 "_law_begun" = true) (k1 : PySem.W.keepIn K (.ref f1) = true)
    (a2 : PySem.W.nsIn K mainGlobals "_law_next" = some (some (.ref f2))) (l2 : K.lookup f2 = some ⟨oc2, od2, .func (PySem.W.fnOf "_law_next" "_law_next" (defArgs (top 37)) (defBody (top 37)) (defScope (top 37)) .none kV2 dc2 pm2 an2 cd2 ct2), sl2⟩) (c2 : PySem.W.codeIn K cd2 "_law_next" = true) (k2 : PySem.W.keepIn K (.ref f2) = true)
    (a3 : PySem.W.nsIn K mainGlobals "_law_tongue" = some (some (.ref f3))) (l3 : K.lookup f3 = some ⟨oc3, od3, .func (PySem.W.fnOf "_law_tongue" "_law_tongue" (defArgs (top 38)) (defBody (top 38)) (defScope (top 38)) .none kV3 dc3 pm3 an3 cd3 ct3), sl3⟩) (c3 : PySem.W.codeIn K cd3 "_law_tongue" = true) (k3 : PySem.W.keepIn K (.ref f3) = true)
    (a4 : PySem.W.nsIn K mainGlobals "is_whole" = some (some (.ref f4))) (l4 : K.lookup f4 = some ⟨oc4, od4, .func (PySem.W.fnOf "is_whole" "is_whole" (defArgs (top 16)) (defBody (top 16)) (defScope (top 16)) .none kV4 dc4 pm4 an4 cd4 ct4), sl4⟩) (c4 : PySem.W.codeIn K cd4 "is_whole" = true) (k4 : PySem.W.keepIn K (.ref f4) = true)
    (a5 : PySem.W.nsIn K mainGlobals "is_head" = some (some (.ref f5))) (l5 : K.lookup f5 = some ⟨oc5, od5, .func (PySem.W.fnOf "is_head" "is_head" (defArgs (top 17)) (defBody (top 17)) (defScope (top 17)) .none kV5 dc5 pm5 an5 cd5 ct5), sl5⟩) (c5 : PySem.W.codeIn K cd5 "is_head" = true) (k5 : PySem.W.keepIn K (.ref f5) = true)
    (a6 : PySem.W.nsIn K mainGlobals "need_language" = some (some (.ref f6))) (l6 : K.lookup f6 = some ⟨oc6, od6, .func (PySem.W.fnOf "need_language" "need_language" (defArgs (top 18)) (defBody (top 18)) (defScope (top 18)) .none kV6 dc6 pm6 an6 cd6 ct6), sl6⟩) (c6 : PySem.W.codeIn K cd6 "need_language" = true) (k6 : PySem.W.keepIn K (.ref f6) = true)
    (a7 : PySem.W.nsIn K mainGlobals "signs_of" = some (some (.ref f7))) (l7 : K.lookup f7 = some ⟨oc7, od7, .func (PySem.W.fnOf "signs_of" "signs_of" (defArgs (top 20)) (defBody (top 20)) (defScope (top 20)) .none kV7 dc7 pm7 an7 cd7 ct7), sl7⟩) (c7 : PySem.W.codeIn K cd7 "signs_of" = true) (k7 : PySem.W.keepIn K (.ref f7) = true)
    (a8 : PySem.W.nsIn K mainGlobals "is_sign" = some (some (.ref f8))) (l8 : K.lookup f8 = some ⟨oc8, od8, .func (PySem.W.fnOf "is_sign" "is_sign" (defArgs (top 21)) (defBody (top 21)) (defScope (top 21)) .none kV8 dc8 pm8 an8 cd8 ct8), sl8⟩) (c8 : PySem.W.codeIn K cd8 "is_sign" = true) (k8 : PySem.W.keepIn K (.ref f8) = true)
    (a9 : PySem.W.nsIn K mainGlobals "need_stream" = some (some (.ref f9))) (l9 : K.lookup f9 = some ⟨oc9, od9, .func (PySem.W.fnOf "need_stream" "need_stream" (defArgs (top 22)) (defBody (top 22)) (defScope (top 22)) .none kV9 dc9 pm9 an9 cd9 ct9), sl9⟩) (c9 : PySem.W.codeIn K cd9 "need_stream" = true) (k9 : PySem.W.keepIn K (.ref f9) = true)
    (a10 : PySem.W.nsIn K mainGlobals "long_of" = some (some (.ref f10))) (l10 : K.lookup f10 = some ⟨oc10, od10, .func (PySem.W.fnOf "long_of" "long_of" (defArgs (top 19)) (defBody (top 19)) (defScope (top 19)) .none kV10 dc10 pm10 an10 cd10 ct10), sl10⟩) (c10 : PySem.W.codeIn K cd10 "long_of" = true) (k10 : PySem.W.keepIn K (.ref f10) = true)
    (a11 : PySem.W.nsIn K mainGlobals "taken" = some (some (.ref f11))) (l11 : K.lookup f11 = some ⟨oc11, od11, .func (PySem.W.fnOf "taken" "taken" (defArgs (top 24)) (defBody (top 24)) (defScope (top 24)) .none kV11 dc11 pm11 an11 cd11 ct11), sl11⟩) (c11 : PySem.W.codeIn K cd11 "taken" = true) (k11 : PySem.W.keepIn K (.ref f11) = true)
    (a12 : PySem.W.nsIn K mainGlobals "notes_behind" = some (some (.ref f12))) (l12 : K.lookup f12 = some ⟨oc12, od12, .func (PySem.W.fnOf "notes_behind" "notes_behind" (defArgs (top 25)) (defBody (top 25)) (defScope (top 25)) .none kV12 dc12 pm12 an12 cd12 ct12), sl12⟩) (c12 : PySem.W.codeIn K cd12 "notes_behind" = true) (k12 : PySem.W.keepIn K (.ref f12) = true)
    (a13 : PySem.W.nsIn K mainGlobals "read_so" = some (some (.ref f13))) (l13 : K.lookup f13 = some ⟨oc13, od13, .func (PySem.W.fnOf "read_so" "read_so" (defArgs (top 26)) (defBody (top 26)) (defScope (top 26)) .none kV13 dc13 pm13 an13 cd13 ct13), sl13⟩) (c13 : PySem.W.codeIn K cd13 "read_so" = true) (k13 : PySem.W.keepIn K (.ref f13) = true)
    (a14 : PySem.W.nsIn K mainGlobals "places_of" = some (some (.ref f14))) (l14 : K.lookup f14 = some ⟨oc14, od14, .func (PySem.W.fnOf "places_of" "places_of" (defArgs (top 27)) (defBody (top 27)) (defScope (top 27)) .none kV14 dc14 pm14 an14 cd14 ct14), sl14⟩) (c14 : PySem.W.codeIn K cd14 "places_of" = true) (k14 : PySem.W.keepIn K (.ref f14) = true)
    (a15 : PySem.W.nsIn K mainGlobals "standings_of" = some (some (.ref f15))) (l15 : K.lookup f15 = some ⟨oc15, od15, .func (PySem.W.fnOf "standings_of" "standings_of" (defArgs (top 28)) (defBody (top 28)) (defScope (top 28)) .none kV15 dc15 pm15 an15 cd15 ct15), sl15⟩) (c15 : PySem.W.codeIn K cd15 "standings_of" = true) (k15 : PySem.W.keepIn K (.ref f15) = true)
    (a16 : PySem.W.nsIn K mainGlobals "does_settle" = some (some (.ref f16))) (l16 : K.lookup f16 = some ⟨oc16, od16, .func (PySem.W.fnOf "does_settle" "does_settle" (defArgs (top 34)) (defBody (top 34)) (defScope (top 34)) .none kV16 dc16 pm16 an16 cd16 ct16), sl16⟩) (c16 : PySem.W.codeIn K cd16 "does_settle" = true) (k16 : PySem.W.keepIn K (.ref f16) = true)
    (a17 : PySem.W.nsIn K mainGlobals "need_both" = some (some (.ref f17))) (l17 : K.lookup f17 = some ⟨oc17, od17, .func (PySem.W.fnOf "need_both" "need_both" (defArgs (top 30)) (defBody (top 30)) (defScope (top 30)) .none kV17 dc17 pm17 an17 cd17 ct17), sl17⟩) (c17 : PySem.W.codeIn K cd17 "need_both" = true) (k17 : PySem.W.keepIn K (.ref f17) = true)
    (a18 : PySem.W.nsIn K mainGlobals "parting" = some (some (.ref f18))) (l18 : K.lookup f18 = some ⟨oc18, od18, .func (PySem.W.fnOf "parting" "parting" (defArgs (top 31)) (defBody (top 31)) (defScope (top 31)) .none kV18 dc18 pm18 an18 cd18 ct18), sl18⟩) (c18 : PySem.W.codeIn K cd18 "parting" = true) (k18 : PySem.W.keepIn K (.ref f18) = true)
    (a19 : PySem.W.nsIn K mainGlobals "are_alike" = some (some (.ref f19))) (l19 : K.lookup f19 = some ⟨oc19, od19, .func (PySem.W.fnOf "are_alike" "are_alike" (defArgs (top 32)) (defBody (top 32)) (defScope (top 32)) .none kV19 dc19 pm19 an19 cd19 ct19), sl19⟩) (c19 : PySem.W.codeIn K cd19 "are_alike" = true) (k19 : PySem.W.keepIn K (.ref f19) = true)
    (a20 : PySem.W.nsIn K mainGlobals "_law_line" = some (some (.ref f20))) (l20 : K.lookup f20 = some ⟨oc20, od20, .func (PySem.W.fnOf "_law_line" "_law_line" (defArgs (top 39)) (defBody (top 39)) (defScope (top 39)) .none kV20 dc20 pm20 an20 cd20 ct20), sl20⟩) (c20 : PySem.W.codeIn K cd20 "_law_line" = true) (k20 : PySem.W.keepIn K (.ref f20) = true)
    (a21 : PySem.W.nsIn K mainGlobals "_law_standings" = some (some (.ref f21))) (l21 : K.lookup f21 = some ⟨oc21, od21, .func (PySem.W.fnOf "_law_standings" "_law_standings" (defArgs (top 43)) (defBody (top 43)) (defScope (top 43)) .none kV21 dc21 pm21 an21 cd21 ct21), sl21⟩) (c21 : PySem.W.codeIn K cd21 "_law_standings" = true) (k21 : PySem.W.keepIn K (.ref f21) = true)
    (a22 : PySem.W.nsIn K mainGlobals "part" = some (some (.ref f22))) (l22 : K.lookup f22 = some ⟨oc22, od22, .func (PySem.W.fnOf "part" "part" (defArgs (top 33)) (defBody (top 33)) (defScope (top 33)) .none kV22 dc22 pm22 an22 cd22 ct22), sl22⟩) (c22 : PySem.W.codeIn K cd22 "part" = true) (k22 : PySem.W.keepIn K (.ref f22) = true)
    (a23 : PySem.W.nsIn K mainGlobals "_law_taken" = some (some (.ref f23))) (l23 : K.lookup f23 = some ⟨oc23, od23, .func (PySem.W.fnOf "_law_taken" "_law_taken" (defArgs (top 40)) (defBody (top 40)) (defScope (top 40)) .none kV23 dc23 pm23 an23 cd23 ct23), sl23⟩) (c23 : PySem.W.codeIn K cd23 "_law_taken" = true) (k23 : PySem.W.keepIn K (.ref f23) = true)
    (a24 : PySem.W.nsIn K mainGlobals "_law_lit" = some (some (.ref f24))) (l24 : K.lookup f24 = some ⟨oc24, od24, .func (PySem.W.fnOf "_law_lit" "_law_lit" (defArgs (top 41)) (defBody (top 41)) (defScope (top 41)) .none kV24 dc24 pm24 an24 cd24 ct24), sl24⟩) (c24 : PySem.W.codeIn K cd24 "_law_lit" = true) (k24 : PySem.W.keepIn K (.ref f24) = true)
    (a25 : PySem.W.nsIn K mainGlobals "_law_read" = some (some (.ref f25))) (l25 : K.lookup f25 = some ⟨oc25, od25, .func (PySem.W.fnOf "_law_read" "_law_read" (defArgs (top 42)) (defBody (top 42)) (defScope (top 42)) .none kV25 dc25 pm25 an25 cd25 ct25), sl25⟩) (c25 : PySem.W.codeIn K cd25 "_law_read" = true) (k25 : PySem.W.keepIn K (.ref f25) = true)
    (a26 : PySem.W.nsIn K mainGlobals "_law_right" = some (some (.ref f26))) (l26 : K.lookup f26 = some ⟨oc26, od26, .func (PySem.W.fnOf "_law_right" "_law_right" (defArgs (top 44)) (defBody (top 44)) (defScope (top 44)) .none kV26 dc26 pm26 an26 cd26 ct26), sl26⟩) (c26 : PySem.W.codeIn K cd26 "_law_right" = true) (k26 : PySem.W.keepIn K (.ref f26) = true)
    (a27 : PySem.W.nsIn K mainGlobals "law" = some (some (.ref f27))) (l27 : K.lookup f27 = some ⟨oc27, od27, .func (PySem.W.fnOf "law" "law" (defArgs (top 45)) (defBody (top 45)) (defScope (top 45)) .none kV27 dc27 pm27 an27 cd27 ct27), sl27⟩) (c27 : PySem.W.codeIn K cd27 "law" = true) (k27 : PySem.W.keepIn K (.ref f27) = true)
    (v0 : PySem.W.nsIn K mainGlobals "ON" = some (some (.str "on" t0)))
    (v1 : PySem.W.nsIn K mainGlobals "OFF" = some (some (.str "off" t1)))
    (v2 : PySem.W.nsIn K mainGlobals "QUIET" = some (some (.str "quiet" t2)))
    (v3 : PySem.W.nsIn K mainGlobals "OTHER" = some (some (.str "other" t3)))
    (v4 : PySem.W.nsIn K mainGlobals "HEAD" = some (some (.str "head" t4)))
    (v5 : PySem.W.nsIn K mainGlobals "VALUE" = some (some (.str "value" t5)))
    (v6 : PySem.W.nsIn K mainGlobals "MOMENT" = some (some (.str "moment" t6)))
    (v7 : PySem.W.nsIn K mainGlobals "MOST_HEADS" = some (some (.int 4 t7)))
    (v8 : PySem.W.nsIn K mainGlobals "MOST_LONG" = some (some (.int 2 t8)))
    (v9 : PySem.W.nsIn K mainGlobals "MOST_NOTES" = some (some (.int 4 t9)))
    (v10 : PySem.W.nsIn K mainGlobals "MOST_MOMENTS" = some (some (.int 2 t10)))
    (v11 : PySem.W.nsIn K mainGlobals "MOST_SIGNS" = some (some (.int 400 t11)))
    (z0 : PySem.W.nsIn K mainGlobals "len" = some none)
    (z1 : PySem.W.nsIn K mainGlobals "int" = some none)
    (z2 : PySem.W.nsIn K mainGlobals "max" = some none)
    (z3 : PySem.W.nsIn K mainGlobals "min" = some none)
    (z4 : PySem.W.nsIn K mainGlobals "sum" = some none)
    (z5 : PySem.W.nsIn K mainGlobals "all" = some none)
    (z6 : PySem.W.nsIn K mainGlobals "any" = some none)
    (z7 : PySem.W.nsIn K mainGlobals "tuple" = some none)
    (z8 : PySem.W.nsIn K mainGlobals "list" = some none)
    (z9 : PySem.W.nsIn K mainGlobals "divmod" = some none)
    (z10 : PySem.W.nsIn K mainGlobals "isinstance" = some none)
    (z11 : PySem.W.nsIn K mainGlobals "range" = some none)
    (z12 : PySem.W.nsIn K mainGlobals "enumerate" = some none)
    (z13 : PySem.W.nsIn K mainGlobals "zip" = some none)
    (z14 : PySem.W.nsIn K mainGlobals "bool" = some none)
    (z15 : PySem.W.nsIn K mainGlobals "str" = some none)
    (z16 : PySem.W.nsIn K mainGlobals "dict" = some none)
    (z17 : PySem.W.nsIn K mainGlobals "sorted" = some none)
    (z18 : PySem.W.nsIn K mainGlobals "set" = some none)
    (z19 : PySem.W.nsIn K mainGlobals "repr" = some none)
    : ∃ fd : FuncData, (∀ (s : Shared) (v : Value), BindsTo s fd ⟨[v], []⟩ [("_law_script", v)]) ∧ ∀ base : Heap, K.In base → base.Ns mainGlobals mg → FnG P w K mg base 27 fa fd ["_law_script"] (spPure (ctOf K mg csts fs26) 1 M_law) := by
  have e := hfa.symm.trans (PySem.W.mg_of X G a27)
  cases e
  have hb : ∀ x ∈ bltNames, mg x = none := forall_cons (PySem.W.mg_none_of X G z0) (forall_cons (PySem.W.mg_none_of X G z1) (forall_cons (PySem.W.mg_none_of X G z2) (forall_cons (PySem.W.mg_none_of X G z3) (forall_cons (PySem.W.mg_none_of X G z4) (forall_cons (PySem.W.mg_none_of X G z5) (forall_cons (PySem.W.mg_none_of X G z6) (forall_cons (PySem.W.mg_none_of X G z7) (forall_cons (PySem.W.mg_none_of X G z8) (forall_cons (PySem.W.mg_none_of X G z9) (forall_cons (PySem.W.mg_none_of X G z10) (forall_cons (PySem.W.mg_none_of X G z11) (forall_cons (PySem.W.mg_none_of X G z12) (forall_cons (PySem.W.mg_none_of X G z13) (forall_cons (PySem.W.mg_none_of X G z14) (forall_cons (PySem.W.mg_none_of X G z15) (forall_cons (PySem.W.mg_none_of X G z16) (forall_cons (PySem.W.mg_none_of X G z17) (forall_cons (PySem.W.mg_none_of X G z18) (forall_cons (PySem.W.mg_none_of X G z19) (forall_nil))))))))))))))))))))
  have hc : ∀ p ∈ csts, ConOk K mg p.1 p.2 := forall_cons (con_str (by decide +kernel) (PySem.W.mg_of X G v0)) (forall_cons (con_str (by decide +kernel) (PySem.W.mg_of X G v1)) (forall_cons (con_str (by decide +kernel) (PySem.W.mg_of X G v2)) (forall_cons (con_str (by decide +kernel) (PySem.W.mg_of X G v3)) (forall_cons (con_str (by decide +kernel) (PySem.W.mg_of X G v4)) (forall_cons (con_str (by decide +kernel) (PySem.W.mg_of X G v5)) (forall_cons (con_str (by decide +kernel) (PySem.W.mg_of X G v6)) (forall_cons (con_int (by decide +kernel) (PySem.W.mg_of X G v7)) (forall_cons (con_int (by decide +kernel) (PySem.W.mg_of X G v8)) (forall_cons (con_int (by decide +kernel) (PySem.W.mg_of X G v9)) (forall_cons (con_int (by decide +kernel) (PySem.W.mg_of X G v10)) (forall_cons (con_int (by decide +kernel) (PySem.W.mg_of X G v11)) (forall_nil))))))))))))
  have F1 := fun_mk (st := top 36) l1 c1 k1
  have b1 := F1.binds (ps := ["_law_script"]) fun _ _ _ _ _ _ us hl => match us, hl with | [_], _ => rfl
  have F2 := fun_mk (st := top 37) l2 c2 k2
  have b2 := F2.binds (ps := ["_law_m", "_law_total"]) fun _ _ _ _ _ _ us hl => match us, hl with | [_, _], _ => rfl
  have F3 := fun_mk (st := top 38) l3 c3 k3
  have b3 := F3.binds (ps := ["_law_m", "_law_total", "_law_notes"]) fun _ _ _ _ _ _ us hl => match us, hl with | [_, _, _], _ => rfl
  have F4 := fun_mk (st := top 16) l4 c4 k4
  have b4 := F4.binds (ps := ["thing", "least", "most"]) fun _ _ _ _ _ _ us hl => match us, hl with | [_, _, _], _ => rfl
  have F5 := fun_mk (st := top 17) l5 c5 k5
  have b5 := F5.binds (ps := ["thing"]) fun _ _ _ _ _ _ us hl => match us, hl with | [_], _ => rfl
  have F6 := fun_mk (st := top 18) l6 c6 k6
  have b6 := F6.binds (ps := ["thing"]) fun _ _ _ _ _ _ us hl => match us, hl with | [_], _ => rfl
  have F7 := fun_mk (st := top 20) l7 c7 k7
  have b7 := F7.binds (ps := ["language"]) fun _ _ _ _ _ _ us hl => match us, hl with | [_], _ => rfl
  have F8 := fun_mk (st := top 21) l8 c8 k8
  have b8 := F8.binds (ps := ["language", "thing"]) fun _ _ _ _ _ _ us hl => match us, hl with | [_, _], _ => rfl
  have F9 := fun_mk (st := top 22) l9 c9 k9
  have b9 := F9.binds (ps := ["language", "stream"]) fun _ _ _ _ _ _ us hl => match us, hl with | [_, _], _ => rfl
  have F10 := fun_mk (st := top 19) l10 c10 k10
  have b10 := F10.binds (ps := ["language", "head"]) fun _ _ _ _ _ _ us hl => match us, hl with | [_, _], _ => rfl
  have F11 := fun_mk (st := top 24) l11 c11 k11
  have b11 := F11.binds (ps := ["language", "head", "got", "sign"]) fun _ _ _ _ _ _ us hl => match us, hl with | [_, _, _, _], _ => rfl
  have F12 := fun_mk (st := top 25) l12 c12 k12
  have b12 := F12.binds (ps := ["language", "on", "message"]) fun _ _ _ _ _ _ us hl => match us, hl with | [_, _, _], _ => rfl
  have F13 := fun_mk (st := top 26) l13 c13 k13
  have b13 := F13.binds (ps := ["language", "standing", "stream"]) fun _ _ _ _ _ _ us hl => match us, hl with | [_, _, _], _ => rfl
  have F14 := fun_mk (st := top 27) l14 c14 k14
  have b14 := F14.binds (ps := ["language"]) fun _ _ _ _ _ _ us hl => match us, hl with | [_], _ => rfl
  have F15 := fun_mk (st := top 28) l15 c15 k15
  have b15 := F15.binds (ps := ["language"]) fun _ _ _ _ _ _ us hl => match us, hl with | [_], _ => rfl
  have F16 := fun_mk (st := top 34) l16 c16 k16
  have b16 := F16.binds (ps := ["language", "stream"]) fun _ _ _ _ _ _ us hl => match us, hl with | [_, _], _ => rfl
  have F17 := fun_mk (st := top 30) l17 c17 k17
  have b17 := F17.binds (ps := ["language", "stream", "other"]) fun _ _ _ _ _ _ us hl => match us, hl with | [_, _, _], _ => rfl
  have F18 := fun_mk (st := top 31) l18 c18 k18
  have b18 := F18.binds (ps := ["language", "stream", "other"]) fun _ _ _ _ _ _ us hl => match us, hl with | [_, _, _], _ => rfl
  have F19 := fun_mk (st := top 32) l19 c19 k19
  have b19 := F19.binds (ps := ["language", "stream", "other"]) fun _ _ _ _ _ _ us hl => match us, hl with | [_, _, _], _ => rfl
  have F20 := fun_mk (st := top 39) l20 c20 k20
  have b20 := F20.binds (ps := ["_law_m", "_law_tongue_here", "_law_total"]) fun _ _ _ _ _ _ us hl => match us, hl with | [_, _, _], _ => rfl
  have F21 := fun_mk (st := top 43) l21 c21 k21
  have b21 := F21.binds (ps := ["_law_tongue_here"]) fun _ _ _ _ _ _ us hl => match us, hl with | [_], _ => rfl
  have F22 := fun_mk (st := top 33) l22 c22 k22
  have b22 := F22.binds (ps := ["language", "stream", "other"]) fun _ _ _ _ _ _ us hl => match us, hl with | [_, _, _], _ => rfl
  have F23 := fun_mk (st := top 40) l23 c23 k23
  have b23 := F23.binds (ps := ["_law_tongue_here", "_law_here", "_law_token"]) fun _ _ _ _ _ _ us hl => match us, hl with | [_, _, _], _ => rfl
  have F24 := fun_mk (st := top 41) l24 c24 k24
  have b24 := F24.binds (ps := ["_law_tongue_here", "_law_lit_here", "_law_message"]) fun _ _ _ _ _ _ us hl => match us, hl with | [_, _, _], _ => rfl
  have F25 := fun_mk (st := top 42) l25 c25 k25
  have b25 := F25.binds (ps := ["_law_tongue_here", "_law_standing", "_law_line_here"]) fun _ _ _ _ _ _ us hl => match us, hl with | [_, _, _], _ => rfl
  have F26 := fun_mk (st := top 44) l26 c26 k26
  have b26 := F26.binds (ps := ["_law_tongue_here", "_law_line_here", "_law_other"]) fun _ _ _ _ _ _ us hl => match us, hl with | [_, _, _], _ => rfl
  have F27 := fun_mk (st := top 45) l27 c27 k27
  refine ⟨_, fun s v => (.of_eq rfl : BindsTo s (PySem.W.fnOf "law" "law" (defArgs (top 45)) (defBody (top 45)) (defScope (top 45)) .none kV27 dc27 pm27 an27 cd27 ct27) _ _), fun base _ _ => ?_⟩
  have L0 : Lv (ctOf K mg csts fs0) P w base 0 := Lv.nil
  have L1 : Lv (ctOf K mg csts fs1) P w base 1 := L0.add (fn_mk F1 s__law_begun L0 (Mod.mk' hb hc) m__law_begun (fun ds r _ z => z)) (PySem.W.mg_of X G a1) k1 b1 (by decide +kernel)
  have L2 : Lv (ctOf K mg csts fs2) P w base 2 := L1.add (fn_io F2 s__law_next L1 (Mod.mk' hb hc) m__law_next rfl (fun o ds r _ z => z)) (PySem.W.mg_of X G a2) k2 b2 (by decide +kernel)
  have L3 : Lv (ctOf K mg csts fs3) P w base 3 := L2.add (fn_io F3 s__law_tongue L2 (Mod.mk' hb hc) m__law_tongue rfl (fun o ds r _ z => z)) (PySem.W.mg_of X G a3) k3 b3 (by decide +kernel)
  have L4 : Lv (ctOf K mg csts fs4) P w base 4 := L3.add (fn_pure F4 s_is_whole L3 (Mod.mk' hb hc) m_is_whole (fun ds r _ z => z)) (PySem.W.mg_of X G a4) k4 b4 (by decide +kernel)
  have L5 : Lv (ctOf K mg csts fs5) P w base 5 := L4.add (fn_pure F5 s_is_head L4 (Mod.mk' hb hc) m_is_head (fun ds r _ z => z)) (PySem.W.mg_of X G a5) k5 b5 (by decide +kernel)
  have L6 : Lv (ctOf K mg csts fs6) P w base 6 := L5.add (fn_pure F6 s_need_language L5 (Mod.mk' hb hc) m_need_language (fun ds r _ z => z)) (PySem.W.mg_of X G a6) k6 b6 (by decide +kernel)
  have L7 : Lv (ctOf K mg csts fs7) P w base 7 := L6.add (fn_pure F7 s_signs_of L6 (Mod.mk' hb hc) m_signs_of (fun ds r _ z => z)) (PySem.W.mg_of X G a7) k7 b7 (by decide +kernel)
  have L8 : Lv (ctOf K mg csts fs8) P w base 8 := L7.add (fn_pure F8 s_is_sign L7 (Mod.mk' hb hc) m_is_sign (fun ds r _ z => z)) (PySem.W.mg_of X G a8) k8 b8 (by decide +kernel)
  have L9 : Lv (ctOf K mg csts fs9) P w base 9 := L8.add (fn_pure F9 s_need_stream L8 (Mod.mk' hb hc) m_need_stream (fun ds r _ z => z)) (PySem.W.mg_of X G a9) k9 b9 (by decide +kernel)
  have L10 : Lv (ctOf K mg csts fs10) P w base 10 := L9.add (fn_pure F10 s_long_of L9 (Mod.mk' hb hc) m_long_of (fun ds r _ z => z)) (PySem.W.mg_of X G a10) k10 b10 (by decide +kernel)
  have L11 : Lv (ctOf K mg csts fs11) P w base 11 := L10.add (fn_pure F11 s_taken L10 (Mod.mk' hb hc) m_taken (fun ds r _ z => z)) (PySem.W.mg_of X G a11) k11 b11 (by decide +kernel)
  have L12 : Lv (ctOf K mg csts fs12) P w base 12 := L11.add (fn_pure F12 s_notes_behind L11 (Mod.mk' hb hc) m_notes_behind (fun ds r _ z => z)) (PySem.W.mg_of X G a12) k12 b12 (by decide +kernel)
  have L13 : Lv (ctOf K mg csts fs13) P w base 13 := L12.add (fn_pure F13 s_read_so L12 (Mod.mk' hb hc) m_read_so (fun ds r _ z => z)) (PySem.W.mg_of X G a13) k13 b13 (by decide +kernel)
  have L14 : Lv (ctOf K mg csts fs14) P w base 14 := L13.add (fn_pure F14 s_places_of L13 (Mod.mk' hb hc) m_places_of (fun ds r _ z => z)) (PySem.W.mg_of X G a14) k14 b14 (by decide +kernel)
  have L15 : Lv (ctOf K mg csts fs15) P w base 15 := L14.add (fn_pure F15 s_standings_of L14 (Mod.mk' hb hc) m_standings_of (fun ds r _ z => z)) (PySem.W.mg_of X G a15) k15 b15 (by decide +kernel)
  have L16 : Lv (ctOf K mg csts fs16) P w base 16 := L15.add (fn_pure F16 s_does_settle L15 (Mod.mk' hb hc) m_does_settle (fun ds r _ z => z)) (PySem.W.mg_of X G a16) k16 b16 (by decide +kernel)
  have L17 : Lv (ctOf K mg csts fs17) P w base 17 := L16.add (fn_pure F17 s_need_both L16 (Mod.mk' hb hc) m_need_both (fun ds r _ z => z)) (PySem.W.mg_of X G a17) k17 b17 (by decide +kernel)
  have L18 : Lv (ctOf K mg csts fs18) P w base 18 := L17.add (fn_pure F18 s_parting L17 (Mod.mk' hb hc) m_parting (fun ds r _ z => z)) (PySem.W.mg_of X G a18) k18 b18 (by decide +kernel)
  have L19 : Lv (ctOf K mg csts fs19) P w base 19 := L18.add (fn_pure F19 s_are_alike L18 (Mod.mk' hb hc) m_are_alike (fun ds r _ z => z)) (PySem.W.mg_of X G a19) k19 b19 (by decide +kernel)
  have L20 : Lv (ctOf K mg csts fs20) P w base 20 := L19.add (fn_io F20 s__law_line L19 (Mod.mk' hb hc) m__law_line rfl (fun o ds r _ z => z)) (PySem.W.mg_of X G a20) k20 b20 (by decide +kernel)
  have L21 : Lv (ctOf K mg csts fs21) P w base 21 := L20.add (fn_pure F21 s__law_standings L20 (Mod.mk' hb hc) m__law_standings (fun ds r _ z => z)) (PySem.W.mg_of X G a21) k21 b21 (by decide +kernel)
  have L22 : Lv (ctOf K mg csts fs22) P w base 22 := L21.add (fn_pure F22 s_part L21 (Mod.mk' hb hc) m_part (fun ds r _ z => z)) (PySem.W.mg_of X G a22) k22 b22 (by decide +kernel)
  have L23 : Lv (ctOf K mg csts fs23) P w base 23 := L22.add (fn_pure F23 s__law_taken L22 (Mod.mk' hb hc) m__law_taken (fun ds r _ z => z)) (PySem.W.mg_of X G a23) k23 b23 (by decide +kernel)
  have L24 : Lv (ctOf K mg csts fs24) P w base 24 := L23.add (fn_pure F24 s__law_lit L23 (Mod.mk' hb hc) m__law_lit (fun ds r _ z => z)) (PySem.W.mg_of X G a24) k24 b24 (by decide +kernel)
  have L25 : Lv (ctOf K mg csts fs25) P w base 25 := L24.add (fn_pure F25 s__law_read L24 (Mod.mk' hb hc) m__law_read (fun ds r _ z => z)) (PySem.W.mg_of X G a25) k25 b25 (by decide +kernel)
  have L26 : Lv (ctOf K mg csts fs26) P w base 26 := L25.add (fn_pure F26 s__law_right L25 (Mod.mk' hb hc) m__law_right (fun ds r _ z => z)) (PySem.W.mg_of X G a26) k26 b26 (by decide +kernel)
  exact fn_pure F27 s_law L26 (Mod.mk' hb hc) m_law (fun ds r _ z => z)
end NW
open PySem PySem.W PyProof.Rows in
set_option maxRecDepth 100000 in
set_option maxHeartbeats 0 in
theorem PySem.Challenge.cw_notewire_k06_whole_likes_holds : PySem.Challenge.rw_notewire_k06_whole_likes.Holds := by
  w_on; o_law; k_head; (case hw => w_witness2)
  k_fill
  refine NW.walk_end (l := PySem.Challenge.rw_notewire_k06_whole_likes) (cs := NW.csts) (fs := NW.fs26) (k := 27) (x := "_law_script") rfl rfl ⟨rfl, by decide, by decide⟩ (fun w h Y => PySem.W.kIn_of Y) NW.law_true ?F
  case F =>
    intro w mg fa h KX G hmg
    refine' NW.all_mk KX G hmg ?a1 ?l1 ?c1 ?k1 ?a2 ?l2 ?c2 ?k2 ?a3 ?l3 ?c3 ?k3 ?a4 ?l4 ?c4 ?k4 ?a5 ?l5 ?c5 ?k5 ?a6 ?l6 ?c6 ?k6 ?a7 ?l7 ?c7 ?k7 ?a8 ?l8 ?c8 ?k8 ?a9 ?l9 ?c9 ?k9 ?a10 ?l10 ?c10 ?k10 ?a11 ?l11 ?c11 ?k11 ?a12 ?l12 ?c12 ?k12 ?a13 ?l13 ?c13 ?k13 ?a14 ?l14 ?c14 ?k14 ?a15 ?l15 ?c15 ?k15 ?a16 ?l16 ?c16 ?k16 ?a17 ?l17 ?c17 ?k17 ?a18 ?l18 ?c18 ?k18 ?a19 ?l19 ?c19 ?k19 ?a20 ?l20 ?c20 ?k20 ?a21 ?l21 ?c21 ?k21 ?a22 ?l22 ?c22 ?k22 ?a23 ?l23 ?c23 ?k23 ?a24 ?l24 ?c24 ?k24 ?a25 ?l25 ?c25 ?k25 ?a26 ?l26 ?c26 ?k26 ?a27 ?l27 ?c27 ?k27 ?v0 ?v1 ?v2 ?v3 ?v4 ?v5 ?v6 ?v7 ?v8 ?v9 ?v10 ?v11 ?z0 ?z1 ?z2 ?z3 ?z4 ?z5 ?z6 ?z7 ?z8 ?z9 ?z10 ?z11 ?z12 ?z13 ?z14 ?z15 ?z16 ?z17 ?z18 ?z19
    (case a1 => k_is)
    (case l1 => k_is)
    (case c1 => k_is)
    (case k1 => k_is)
    (case a2 => k_is)
    (case l2 => k_is)
    (case c2 => k_is)
    (case k2 => k_is)
    (case a3 => k_is)
    (case l3 => k_is)
    (case c3 => k_is)
    (case k3 => k_is)
    (case a4 => k_is)
    (case l4 => k_is)
    (case c4 => k_is)
    (case k4 => k_is)
    (case a5 => k_is)
    (case l5 => k_is)
    (case c5 => k_is)
    (case k5 => k_is)
    (case a6 => k_is)
    (case l6 => k_is)
    (case c6 => k_is)
    (case k6 => k_is)
    (case a7 => k_is)
    (case l7 => k_is)
    (case c7 => k_is)
    (case k7 => k_is)
    (case a8 => k_is)
    (case l8 => k_is)
    (case c8 => k_is)
    (case k8 => k_is)
    (case a9 => k_is)
    (case l9 => k_is)
    (case c9 => k_is)
    (case k9 => k_is)
    (case a10 => k_is)
    (case l10 => k_is)
    (case c10 => k_is)
    (case k10 => k_is)
    (case a11 => k_is)
    (case l11 => k_is)
    (case c11 => k_is)
    (case k11 => k_is)
    (case a12 => k_is)
    (case l12 => k_is)
    (case c12 => k_is)
    (case k12 => k_is)
    (case a13 => k_is)
    (case l13 => k_is)
    (case c13 => k_is)
    (case k13 => k_is)
    (case a14 => k_is)
    (case l14 => k_is)
    (case c14 => k_is)
    (case k14 => k_is)
    (case a15 => k_is)
    (case l15 => k_is)
    (case c15 => k_is)
    (case k15 => k_is)
    (case a16 => k_is)
    (case l16 => k_is)
    (case c16 => k_is)
    (case k16 => k_is)
    (case a17 => k_is)
    (case l17 => k_is)
    (case c17 => k_is)
    (case k17 => k_is)
    (case a18 => k_is)
    (case l18 => k_is)
    (case c18 => k_is)
    (case k18 => k_is)
    (case a19 => k_is)
    (case l19 => k_is)
    (case c19 => k_is)
    (case k19 => k_is)
    (case a20 => k_is)
    (case l20 => k_is)
    (case c20 => k_is)
    (case k20 => k_is)
    (case a21 => k_is)
    (case l21 => k_is)
    (case c21 => k_is)
    (case k21 => k_is)
    (case a22 => k_is)
    (case l22 => k_is)
    (case c22 => k_is)
    (case k22 => k_is)
    (case a23 => k_is)
    (case l23 => k_is)
    (case c23 => k_is)
    (case k23 => k_is)
    (case a24 => k_is)
    (case l24 => k_is)
    (case c24 => k_is)
    (case k24 => k_is)
    (case a25 => k_is)
    (case l25 => k_is)
    (case c25 => k_is)
    (case k25 => k_is)
    (case a26 => k_is)
    (case l26 => k_is)
    (case c26 => k_is)
    (case k26 => k_is)
    (case a27 => k_is)
    (case l27 => k_is)
    (case c27 => k_is)
    (case k27 => k_is)
    (case v0 => k_is)
    (case v1 => k_is)
    (case v2 => k_is)
    (case v3 => k_is)
    (case v4 => k_is)
    (case v5 => k_is)
    (case v6 => k_is)
    (case v7 => k_is)
    (case v8 => k_is)
    (case v9 => k_is)
    (case v10 => k_is)
    (case v11 => k_is)
    (case z0 => k_is)
    (case z1 => k_is)
    (case z2 => k_is)
    (case z3 => k_is)
    (case z4 => k_is)
    (case z5 => k_is)
    (case z6 => k_is)
    (case z7 => k_is)
    (case z8 => k_is)
    (case z9 => k_is)
    (case z10 => k_is)
    (case z11 => k_is)
    (case z12 => k_is)
    (case z13 => k_is)
    (case z14 => k_is)
    (case z15 => k_is)
    (case z16 => k_is)
    (case z17 => k_is)
    (case z18 => k_is)
    (case z19 => k_is)
end
