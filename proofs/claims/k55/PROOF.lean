import PyProof.Rows.All
import Wide.All
import OpenK.AllK
import Wide.FinOn
import HandS.ForMost
import HandS.Walk
import HandS.Zip
import HandS.IsInst
import KE.GoesMore
import KE.GoesZip
import KE.GoesEnum
import HandS.Codes
import HandS.TupAny
import HandS.Deep
import HandS.Wide
import PySem.Challenge.RW_firsttouch_k55_rings_told
import HandS.More
import HandS.DictComp
import KE.SortData
import HandS.SuiteRaise
import HandS.ExcCtx
import KE.KExcRaise
import HandS.ExcInit
import HandS.ExcField
import HandS.WordsExc
import KE.KDictKeyed
import HandS.SetFor
import PyProof.SeqRoads2
import HandS.RaiseMore
import HandS.Text
import KE.KStateDown
import HandS.Defaults
import HandS.Head0
import HandS.Head1
import HandS.Head2
import HandS.HeadEnd
import HandS.HeadHook1
import HandS.HeadHook2
import HandS.HeadHook3
import HandS.HeadHook4
import HandS.HeadNt
set_option Elab.async false
set_option linter.all false
set_option maxRecDepth 100000
set_option maxHeartbeats 4000000
namespace Ft
open PySem PySem.Spec PyProof.Rows L2
/-- a list (true) or a tuple (false) -/
def Sq (kd : Bool) (K : PySem.W.Frag) (H : Hp) (a : Addr) (xs : List V) : Prop := match kd with
  | true => SqL K H a xs
  | false => SqT K H a xs
def SIter (kd : Bool) (h : Heap) (it l : Addr) (i : Nat) : Prop := match kd with
  | true => h.IsListIter it l i
  | false => h.IsTupleIter it l i
def SAt (kd : Bool) (h : Heap) (l : Addr) (items : Array Value) : Prop := match kd with
  | true => h.IsList l items
  | false => h.IsTuple l items
def sIterO (kd : Bool) (l : Addr) : Obj := match kd with
  | true => { cls := .type "list_iterator", data := .fields #[.ref l, .int 0 0] }
  | false => { cls := .type "tuple_iterator", data := .fields #[.ref l, .int 0 0] }
theorem sdraws (kd : Bool) {prog : Program} {w : World} {A : Around} (hh : A.handled = none) (it l : Addr) (hne : l ≠ it) (items : Array Value) :
    Draws prog w A it [it, l] items.size (fun i v => items[i]? = some v) (fun i h => SIter kd h it l i ∧ SAt kd h l items) := by
  cases kd with
  | true => exact Draws.list hh it l hne items
  | false => exact Draws.tuple hh it l hne items
theorem sbegins (kd : Bool) (l : Addr) (items : Array Value) : Begins (.ref l) (sIterO kd l) fun h => SAt kd h l items := by
  cases kd with
  | true => exact begins_list l items
  | false => exact begins_tuple l items
theorem siter0 {kd : Bool} {h : Heap} {it l : Addr} (e : h.get? it = some (sIterO kd l)) : SIter kd h it l 0 := by
  cases kd with
  | true => exact ⟨_, e, rfl, rfl⟩
  | false => exact ⟨_, e, rfl, rfl⟩
theorem SIter.at {kd : Bool} {h h' : Heap} {it l : Addr} {i : Nat} (x : SIter kd h it l i) (k : ∀ o, h.get? it = some o → h'.get? it = some o) : SIter kd h' it l i := by
  cases kd with
  | true => exact Heap.IsListIter.at x k
  | false => exact Heap.IsTupleIter.at x k
theorem SIter.obj {kd : Bool} {h : Heap} {it l : Addr} {i : Nat} (x : SIter kd h it l i) : ∃ o, h.get? it = some o ∧ ∀ v, o.data ≠ .cell v := by
  cases kd with
  | true =>
    obtain ⟨o, ho, hc, hd⟩ := x
    exact ⟨o, ho, fun v q => by rw [hd] at q; cases q⟩
  | false =>
    obtain ⟨o, ho, hc, hd⟩ := x
    exact ⟨o, ho, fun v q => by rw [hd] at q; cases q⟩
section
variable {X : Cx} {pins : List (Addr × Obj)} {σ : L2.St} {H : Hp} {s : Shared} {a : Addr} {xs ys : List V}
theorem sq_at {kd : Bool} (I : Inv X pins σ H s) (h : Sq kd X.K H a xs) : ∃ its : List Value, Vals xs its ∧ SAt kd s.heap a its.toArray ∧ xs.length ≤ sizeLine := by
  cases kd with
  | true =>
    obtain ⟨its, rv, p, hz⟩ := I.list h
    exact ⟨its, rv, p.isList, hz⟩
  | false =>
    obtain ⟨its, rv, p, hz⟩ := I.tuple h
    exact ⟨its, rv, p, hz⟩
theorem sq_inj {kd : Bool} (I : Inv X pins σ H s) (h : Sq kd X.K H a xs) (h' : Sq kd X.K H a ys) : xs = ys := by
  cases kd with
  | true => exact I.list_inj h h'
  | false => exact I.tuple_inj h h'
theorem SAt.lt {kd : Bool} {h : Heap} {its : Array Value} (x : SAt kd h a its) : a < h.objs.size := by
  cases kd with
  | true => obtain ⟨o, ho, _⟩ := x; exact Heap.lt_size ho
  | false => obtain ⟨o, ho, _⟩ := x; exact Heap.lt_size ho
end
def ItzQ (ka kb : Bool) (K : PySem.W.Frag) (a b : Addr) : It :=
  ⟨fun i H => ∃ (xs ys : List V) (x y : V), Sq ka K H a xs ∧ Sq kb K H b ys ∧ xs[i]? = some x ∧ ys[i]? = some y,
    fun i H v H' => ∃ T x y, v = .ref T ∧ H T = none ∧ H' = upd H T (.tup [x, y]) ∧ (∀ xs, Sq ka K H a xs → xs[i]? = some x) ∧ ∀ ys, Sq kb K H b ys → ys[i]? = some y,
    fun i H => ∃ xs ys : List V, Sq ka K H a xs ∧ Sq kb K H b ys ∧ i ≤ xs.length ∧ i ≤ ys.length ∧ (i = xs.length ∨ i = ys.length)⟩
theorem turn_zipQ {P : Program} {w : World} {K : PySem.W.Frag} {elts : List Expr} {kk : Nat} {tpos : Pos} {ka kb : Bool} {a b z TI TO i1 i2 : Addr} (D : ZipSep2 z TI TO i1 i2 [i1, a] [i2, b]) (na : a ≠ i1) (nb : b ≠ i2) :
    Turn P w K (.Tuple elts kk tpos) (ItzQ ka kb K a b) [z, TI, TO, i1, i2] z (fun i h => IsZip h z TI TO .none ∧ IsTupOf2 h TI (.ref i1) (.ref i2) ∧ (∃ x y, IsTupOf2 h TO x y) ∧ SIter ka h i1 a i ∧ SIter kb h i2 b i) where
  mem := by simp
  obj := fun i h st c hc => by
    obtain ⟨hz, hTI, ⟨x, y, hTO⟩, h1, h2⟩ := st
    have e' : c = z ∨ c = TI ∨ c = TO ∨ c = i1 ∨ c = i2 := by simpa using hc
    rcases e' with q | q | q | q | q
    · rw [q]; exact ⟨_, hz, fun v q => nomatch q⟩
    · rw [q]; exact ⟨_, hTI, fun v q => nomatch q⟩
    · rw [q]; exact ⟨_, hTO, fun v q => nomatch q⟩
    · rw [q]; exact h1.obj
    · rw [q]; exact h2.obj
  keep := fun i h h' st k => by
    obtain ⟨hz, hTI, ⟨x, y, hTO⟩, h1, h2⟩ := st
    exact ⟨k z (by simp) _ hz, k TI (by simp) _ hTI, ⟨x, y, k TO (by simp) _ hTO⟩, h1.at fun o q => k i1 (by simp) o q, h2.at fun o q => k i2 (by simp) o q⟩
  item := by
    intro X hP hw hK hc i pins s σ H E I hf st hg
    subst hP hw hK
    obtain ⟨hz, hTI, ⟨x0, y0, hTO⟩, h1, h2⟩ := st
    obtain ⟨xs, ys, x, y, hqx, hqy, hx, hy⟩ := hg
    obtain ⟨its, rv, p, _⟩ := sq_at I hqx
    obtain ⟨its2, rv2, p2, _⟩ := sq_at I hqy
    have hh : X.A.in1.handled = none := I.ok.hd hc
    have D1 := sdraws ka (prog := X.prog) (w := X.w) hh i1 a na its.toArray
    have D2 := sdraws kb (prog := X.prog) (w := X.w) hh i2 b nb its2.toArray
    obtain ⟨u, hu, ru⟩ := rv.get hx
    obtain ⟨u2, hu2, ru2⟩ := rv2.get hy
    have hzl : z < s.heap.objs.size := Heap.lt_size hz
    have l1 : i < its.toArray.size := by
      have := (List.getElem?_eq_some_iff.mp hu).1
      simpa using this
    have l2 : i < its2.toArray.size := by
      have := (List.getElem?_eq_some_iff.mp hu2).1
      simpa using this
    refine wpAny_pyNext_zipD2_item D D1 D2 hz hTI hTO ⟨h1, p⟩ ⟨h2, p2⟩ l1 l2 fun v1 v2 h' tk e1 e2 z' TO' h1' h2' hT hsz hk => ?_
    have e1' : u = v1 := by
      have q : its[i]? = some v1 := by simpa using e1
      rw [hu] at q; exact Option.some.inj q
    have e2' : u2 = v2 := by
      have q : its2[i]? = some v2 := by simpa using e2
      rw [hu2] at q; exact Option.some.inj q
    subst e1' e2'
    refine ⟨_, rfl, wpAny_letOwnedTupleGo_zip (s := { s with heap := h', toks := tk }) z' fun h'' z'' sb => ?_⟩
    have hT2 : h''.get? s.heap.objs.size = some { cls := .type "tuple", data := .seq #[u, u2] } := (sb.2 _ (Nat.ne_of_gt hzl)).trans hT
    have new : ObjOk X.prog X.w (upd H s.heap.objs.size (.tup [x, y])) h'' s.heap.objs.size (.tup [x, y]) :=
      ⟨by show 2 ≤ sizeLine; decide, [u, u2], .cons ru (.cons ru2 .nil), ⟨_, hT2, rfl, _, rfl⟩⟩
    have I1 : Inv X pins σ (upd H s.heap.objs.size (.tup [x, y])) { s with heap := h'', toks := tk } :=
      I.turnedNew (t' := tk) (ch := [z, TI, TO, i1, i2]) (fun c o hb q => (sb.2 c (fun q' => hb (by simp [q']))).trans (hk c o (fun q' => hb (by simp [q'])) (fun q' => hb (by simp [q'])) (fun q' => hb (by simp [q'])) (fun q' => hb (by simp [q'])) q)) hf (Nat.le_refl _) new
    refine ⟨.ref s.heap.objs.size, _, I1, rfl, ⟨_, x, y, rfl, I.hok.fresh (Nat.le_refl _), rfl, fun l hl => by rw [sq_inj I hl hqx]; exact hx, fun l hl => by rw [sq_inj I hl hqy]; exact hy⟩, ⟨z'', ?_, ⟨u, u2, ?_⟩, ?_, ?_⟩, fun c hcm => ?_⟩
    · exact (sb.2 _ D.TIz).trans (hk _ _ D.TIz D.TITO D.TIi1 D.TIi2 hTI)
    · exact (sb.2 _ D.TOz).trans TO'
    · exact h1'.1.at fun o q => (sb.2 _ D.zi1.symm).trans q
    · exact h2'.1.at fun o q => (sb.2 _ D.zi2.symm).trans q
    · have hlt : c < s.heap.objs.size := by
        have e' : c = z ∨ c = TI ∨ c = TO ∨ c = i1 ∨ c = i2 := by simpa using hcm
        rcases e' with q | q | q | q | q
        · rw [q]; exact hzl
        · rw [q]; exact Heap.lt_size hTI
        · rw [q]; exact Heap.lt_size hTO
        · rw [q]; obtain ⟨_, e1, _⟩ := h1.obj; exact Heap.lt_size e1
        · rw [q]; obtain ⟨_, e2, _⟩ := h2.obj; exact Heap.lt_size e2
      rw [upd_ne (Nat.ne_of_lt hlt)]
      exact (hf c hcm).1
  done := by
    intro X hP hw hK hc i pins s σ H E I hf st hg
    subst hP hw hK
    obtain ⟨hz, hTI, ⟨x0, y0, hTO⟩, h1, h2⟩ := st
    obtain ⟨xs, ys, hqx, hqy, le1, le2, hend⟩ := hg
    obtain ⟨its, rv, p, _⟩ := sq_at I hqx
    obtain ⟨its2, rv2, p2, _⟩ := sq_at I hqy
    have hh : X.A.in1.handled = none := I.ok.hd hc
    have D1 := sdraws ka (prog := X.prog) (w := X.w) hh i1 a na its.toArray
    have D2 := sdraws kb (prog := X.prog) (w := X.w) hh i2 b nb its2.toArray
    have l1 := rv.length
    have l2 := rv2.length
    have z1 : its.toArray.size = its.length := by simp
    have z2 : its2.toArray.size = its2.length := by simp
    exact wpAny_pyNext_zipD2_end D D1 D2 hz hTI hTO ⟨h1, p⟩ ⟨h2, p2⟩ (by omega) (by omega) (by omega) fun h' tk hk => ⟨rfl, I.turnedL (t' := tk) (ch := [z, TI, TO, i1, i2]) (fun c o hb q =>
      hk c o (fun q' => hb (by simp [q'])) (fun q' => hb (by simp [q'])) (fun q' => hb (by simp [q'])) (fun q' => hb (by simp [q'])) q) hf⟩
  self := fun A i s Q E st h => wpAny_pyIter_zip st.1 h
def iZipQ (K : PySem.W.Frag) (ta : TA) : TI := fun σ H R => ta σ H fun vs H1 => ∃ a b ka kb xs ys, vs = [.ref a, .ref b] ∧ Sq ka K H1 a xs ∧ Sq kb K H1 b ys ∧ R (ItzQ ka kb K a b) H1
theorem pi_zipQ {X : Cx} {e e2 : Expr} {ta : TA} {p pos tpos : Pos} {elts : List Expr} {kk : Nat} (hg : Gl X "zip") (hm : X.mg "zip" = none) (ha : PA X [e, e2] ta)
    (hs : starEach [e, e2] X.env = (false, eval e X.env) :: starEach [e2] X.env := by rfl) (hpl : (backTo pos (starEach [e2] X.env)).any (·.1) = false := by rfl) :
    PI X (.Tuple elts kk tpos) (.Call (.Name "zip" p) [e, e2] [] pos) (iZipQ X.K ta) := by
  refine ⟨fun pins s σ H R I h => ?_⟩
  refine Call_ (ld_blt I hg hm PyProof.Rows.boot_zip (PyProof.Rows.callWith_type1 (thn (ha.run pos pins s σ H _ I h) fun us s1 ⟨vs, H1, I1, r1, q1⟩ => ?_) hs hpl))
  obtain ⟨a, b, ka, kb, xs, ys, ex, hqx, hqy, q⟩ := q1
  subst ex
  cases r1 with
  | cons r rr =>
    cases rr with
    | cons r' rr =>
      cases rr
      cases r
      cases r'
      have fresh5 : ∀ c, c ∈ [s1.heap.objs.size + 4, s1.heap.objs.size + 2, s1.heap.objs.size + 3, s1.heap.objs.size, s1.heap.objs.size + 1] → FpOk X pins H1 c := fun c hcm => by
        have e' : c = s1.heap.objs.size + 4 ∨ c = s1.heap.objs.size + 2 ∨ c = s1.heap.objs.size + 3 ∨ c = s1.heap.objs.size ∨ c = s1.heap.objs.size + 1 := by simpa using hcm
        have hle : s1.heap.objs.size ≤ c := by
          rcases e' with z | z | z | z | z
          · rw [z]; exact Nat.le_add_right _ _
          · rw [z]; exact Nat.le_add_right _ _
          · rw [z]; exact Nat.le_add_right _ _
          · rw [z]; exact Nat.le_refl _
          · rw [z]; exact Nat.le_add_right _ _
        exact I1.fpOk hle (I1.hok.fresh hle)
      obtain ⟨its, rv, p1, _⟩ := sq_at I1 hqx
      obtain ⟨its2, rv2, p2, _⟩ := sq_at I1 hqy
      have la := p1.lt
      have lb := p2.lt
      refine zip_begins2 (sbegins ka a its.toArray) (sbegins kb b its2.toArray) p1 p2 fun h' hz hTI hTO h1 h2 hsz hk => wpAny_pyIter_zip hz ?_
      have I2 : Inv X pins σ H1 { s1 with heap := h' } := I1.kept (t' := s1.toks) hk
      have one : ∀ {c d : Addr}, d < s1.heap.objs.size → c ∈ [d] → c < s1.heap.objs.size := fun {c d} hd hc => by
        have e : c = d := by simpa using hc
        rw [e]; exact hd
      exact ⟨s1.heap.objs.size + 4, [s1.heap.objs.size + 4, s1.heap.objs.size + 2, s1.heap.objs.size + 3, s1.heap.objs.size, s1.heap.objs.size + 1], _, _, H1, rfl, I2, turn_zipQ (zip_sep2 (fun c hc => one la hc) (fun c hc => one lb hc)) (Nat.ne_of_lt la) (Nat.ne_of_lt (Nat.lt_succ_of_lt lb)), ⟨hz, hTI, ⟨_, _, hTO⟩, siter0 h1, siter0 h2⟩, fresh5, q⟩
theorem walk_zipQ {K : PySem.W.Frag} {ka kb : Bool} {a b : Addr} {xs ys : List V} {n : Nat} (hn : n = min xs.length ys.length) : Walk (ItzQ ka kb K a b) n (fun H => Sq ka K H a xs ∧ Sq kb K H b ys) (YPair (fun i => xs[i]?) (fun i => ys[i]?)) :=
  ⟨fun i H hi ⟨h1, h2⟩ => ⟨xs, ys, _, _, h1, h2, List.getElem?_eq_getElem (by omega), List.getElem?_eq_getElem (by omega)⟩, fun H ⟨h1, h2⟩ => ⟨xs, ys, h1, h2, by omega, by omega, by omega⟩,
    fun i H x H' hi ⟨h1, h2⟩ ⟨T, u, v, e1, e2, e3, e4, e5⟩ => ⟨T, u, v, e1, e2, e3, e4 _ h1, e5 _ h2⟩⟩
def ItQ (kd : Bool) (K : PySem.W.Frag) (a : Addr) : It := match kd with
  | true => Itl K a
  | false => Itt K a
def iSeq (K : PySem.W.Frag) (te : TE) : TI := fun σ H R => te σ H fun v H1 => ∃ a kd xs, v = .ref a ∧ Sq kd K H1 a xs ∧ R (ItQ kd K a) H1
theorem pi_seq {X : Cx} {tg l : Expr} {tl : TE} (hl : PE X l tl) : PI X tg l (iSeq X.K tl) := by
  refine ⟨fun pins s σ H R I h => ?_⟩
  refine thn (hl.run pins s σ H _ I h) fun v s1 ⟨x, H1, I1, r1, q1⟩ => ?_
  obtain ⟨a, kd, xs, e, hq, q⟩ := q1
  subst e
  cases r1
  cases kd with
  | true =>
    obtain ⟨its, rv, p, hz⟩ := I1.list hq
    refine wpAny_pyIter_list p.isList ?_
    refine ⟨s1.heap.objs.size, [s1.heap.objs.size], _, _, H1, rfl, I1.kept (t' := s1.toks) fun b o e => Heap.get?_push_of_some _ e, turn_list a _, ⟨_, Heap.get?_push_size _ rfl, rfl, rfl⟩, fun b hb => ?_, q⟩
    have e : b = s1.heap.objs.size := by simpa using hb
    subst e
    exact I1.fpOk (Nat.le_refl _) (I1.hok.fresh (Nat.le_refl _))
  | false =>
    obtain ⟨its, rv, p, hz⟩ := I1.tuple hq
    refine wpAny_pyIter_tuple (show s1.heap.IsTuple a its.toArray from p) ?_
    refine ⟨s1.heap.objs.size, [s1.heap.objs.size], _, _, H1, rfl, I1.kept (t' := s1.toks) fun b o e => Heap.get?_push_of_some _ e, turn_tuple a _, ⟨_, Heap.get?_push_size _ rfl, rfl, rfl⟩, fun b hb => ?_, q⟩
    have e : b = s1.heap.objs.size := by simpa using hb
    subst e
    exact I1.fpOk (Nat.le_refl _) (I1.hok.fresh (Nat.le_refl _))
theorem walk_seq {K : PySem.W.Frag} {kd : Bool} {a : Addr} {xs : List V} : Walk (ItQ kd K a) xs.length (fun H => Sq kd K H a xs) (YAt xs) := by
  cases kd with
  | true => exact walk_list
  | false => exact walk_tup
def IteQ (kd : Bool) (K : PySem.W.Frag) (a : Addr) : It :=
  ⟨fun i H => ∃ xs x, Sq kd K H a xs ∧ xs[i]? = some x,
    fun i H v H' => ∃ T x, v = .ref T ∧ H T = none ∧ H' = upd H T (.tup [.int (i : Nat), x]) ∧ ∀ xs, Sq kd K H a xs → xs[i]? = some x,
    fun i H => ∃ xs, Sq kd K H a xs ∧ i = xs.length⟩
theorem turn_enumQ {P : Program} {w : World} {K : PySem.W.Frag} {elts : List Expr} {kk : Nat} {tpos : Pos} {kd : Bool} {a e it : Addr} (na : a ≠ it) (nae : e ≠ a) :
    Turn P w K (.Tuple elts kk tpos) (IteQ kd K a) [e, it] e (fun i h => (∃ old, IsEnum h e it ((i : Nat) : Int) old) ∧ SIter kd h it a i ∧ e ≠ it) where
  mem := by simp
  obj := fun i h st b hb => by
    obtain ⟨⟨old, he⟩, hi, _⟩ := st
    have e' : b = e ∨ b = it := by simpa using hb
    rcases e' with z | z
    · rw [z]; exact ⟨_, he, fun v q => nomatch q⟩
    · rw [z]; exact hi.obj
  keep := fun i h h' st k => let ⟨⟨old, he⟩, hi, hne⟩ := st; ⟨⟨old, k e (by simp) _ he⟩, hi.at fun o q => k it (by simp) o q, hne⟩
  item := by
    intro X hP hw hK hc i pins s σ H E I hf st hg
    subst hP hw hK
    obtain ⟨⟨old, he⟩, hit, hne⟩ := st
    obtain ⟨xs, x, hq, hx⟩ := hg
    obtain ⟨its, rv, p, hz⟩ := sq_at I hq
    obtain ⟨u, hu, ru⟩ := rv.get hx
    have hh : X.A.in1.handled = none := I.ok.hd hc
    have D := sdraws kd (prog := X.prog) (w := X.w) hh it a na its.toArray
    have hel : e < s.heap.objs.size := Heap.lt_size he
    have hil : it < s.heap.objs.size := by obtain ⟨_, q, _⟩ := hit.obj; exact Heap.lt_size q
    have l1 : i < its.toArray.size := by
      have := (List.getElem?_eq_some_iff.mp hu).1
      simpa using this
    refine wpAny_pyNext_enum_itemD D he ⟨hit, p⟩ l1 hne (by simp [hne, nae]) fun v h' tk e1 ho hit' hT hsz hk => ?_
    have e1' : u = v := by
      have q : its[i]? = some v := by simpa using e1
      rw [hu] at q; exact Option.some.inj q
    subst e1'
    refine ⟨_, rfl, wpAny_letOwnedTupleGo_enum (s := { s with heap := h', toks := tk + 1 }) ho fun h'' he' sb => ?_⟩
    have hT2 : h''.get? s.heap.objs.size = some { cls := .type "tuple", data := .seq #[.int i tk, u] } := (sb.2 _ (Nat.ne_of_gt hel)).trans hT
    have new : ObjOk X.prog X.w (upd H s.heap.objs.size (.tup [.int (i : Nat), x])) h'' s.heap.objs.size (.tup [.int (i : Nat), x]) :=
      ⟨by show 2 ≤ sizeLine; decide, [.int i tk, u], .cons ⟨_, rfl⟩ (.cons ru .nil), ⟨_, hT2, rfl, _, rfl⟩⟩
    have I1 : Inv X pins σ (upd H s.heap.objs.size (.tup [.int (i : Nat), x])) { s with heap := h'', toks := tk + 1 } :=
      I.turnedNew (ch := [e, it]) (fun b ob hb q => (sb.2 b (fun z => hb (by simp [z]))).trans (hk b ob (fun z => hb (by simp [z])) (fun z => hb (by simp [z])) q)) hf (Nat.le_refl _) new
    refine ⟨.ref s.heap.objs.size, _, I1, rfl, ⟨_, x, rfl, I.hok.fresh (Nat.le_refl _), rfl, fun ys hy => by rw [sq_inj I hy hq]; exact hx⟩, ⟨⟨u, ?_⟩, hit'.1.at fun o q => (sb.2 it (Ne.symm hne)).trans q, hne⟩, fun b hb => ?_⟩
    · have e1 : ((i + 1 : Nat) : Int) = (i : Int) + 1 := by omega
      rw [e1]; exact he'
    · have hb' : b < s.heap.objs.size := by
        have e' : b = e ∨ b = it := by simpa using hb
        rcases e' with z | z
        · rw [z]; exact hel
        · rw [z]; exact hil
      rw [upd_ne (Nat.ne_of_lt hb')]
      exact (hf b hb).1
  done := by
    intro X hP hw hK hc i pins s σ H E I hf st hg
    subst hP hw hK
    obtain ⟨⟨old, he⟩, hit, hne⟩ := st
    obtain ⟨xs, hq, hx⟩ := hg
    obtain ⟨its, rv, p, hz⟩ := sq_at I hq
    have hh : X.A.in1.handled = none := I.ok.hd hc
    have D := sdraws kd (prog := X.prog) (w := X.w) hh it a na its.toArray
    obtain ⟨f0, f1, f2, f3, f4, f5⟩ := hf it (by simp)
    have hl := rv.length
    have ei : i = its.toArray.size := by simp; omega
    subst ei
    exact wpAny_pyNext_enum_endD D he ⟨hit, p⟩ fun h' eb => ⟨rfl, I.turned (t' := s.toks) (fun b o hb q => eb b o hb q) f0 f1 f3 f4 f5⟩
  self := fun A i s Q E st h => let ⟨⟨_, he⟩, _⟩ := st; wpAny_pyIter_enum he h
theorem meets_enumerate_newB1 {v : Value} {o : Obj} {H : Heap → Prop} (B : Begins v o H) :
    Meets (Builtin.«enumerate.__new__» ⟨[.type "enumerate", v], []⟩) (fun _ R s => H s.heap ∧
      R (.ok (.ret (.ref (s.heap.push o).objs.size))) { s with heap := (s.heap.push o).push { cls := .type "enumerate", data := .fields #[.none, .bool false, .ref s.heap.objs.size, rawInt 0, .none, .none] } }) :=
  .of_wp fun prog w A R s h => by
    obtain ⟨hp, g, d, tk, os⟩ := s; obtain ⟨h1, h⟩ := h
    have hsub := sub_enumerate
    have q1 : ∀ {A' : Around} {E : Value → Shared → Prop} {Q : Value → Shared → Prop}, Q (.ref hp.objs.size) ⟨hp.push o, g, d, tk, os⟩ → wpAny (model prog w) A' (pyIter v) Q E ⟨hp, g, d, tk, os⟩ :=
      fun q => B.iter prog w _ _ ⟨hp, g, d, tk, os⟩ _ h1 q
    wp_walk using q1
    refine wpAny_stack_any fun st => wpAny_pure ?_
    split
    · rename_i c _ _ _ _ _
      cases (c == Value.type "enumerate")
      · wp_walk using q1
        exact ⟨_, rfl, h⟩
      · wp_walk using q1
        exact ⟨_, rfl, h⟩
    · wp_walk using q1
      exact ⟨_, rfl, h⟩
theorem enum_begins1 {prog : Program} {w : World} {A : Around} {E : Value → Shared → Prop} {s : Shared} {v : Value} {o : Obj} {H : Heap → Prop} {Q : Value → Shared → Prop} (B : Begins v o H) (h1 : H s.heap)
    (h : ∀ h', IsEnum h' (s.heap.objs.size + 1) s.heap.objs.size 0 .none → h'.get? s.heap.objs.size = some o → h'.objs.size = s.heap.objs.size + 2 →
      (∀ b o, s.heap.get? b = some o → h'.get? b = some o) → Q (.ref (s.heap.objs.size + 1)) { s with heap := h' }) :
    wpAny (model prog w) A (call (.type "enumerate") [v]) Q E s := by
  refine callType_new F.called_enumerate (by decide) (F.typeCall_enumerate_1 _) (F.newCall_enumerate_1 _) (fun obj => F.args_object_init_2 obj _) F.entry_enumerate_new
    (meets_enumerate_newB1 B) ⟨h1, ?_⟩
  have hz : (s.heap.push o).objs.size = s.heap.objs.size + 1 := Heap.size_push ..
  show _ ∧ _
  rw [hz]
  have he : IsEnum ((s.heap.push o).push { cls := .type "enumerate", data := .fields #[.none, .bool false, .ref s.heap.objs.size, rawInt 0, .none, .none] }) (s.heap.objs.size + 1) s.heap.objs.size 0 .none := by
    have := Heap.get?_push_size (s.heap.push o) (o := { cls := .type "enumerate", data := .fields #[.none, .bool false, .ref s.heap.objs.size, rawInt 0, .none, .none] }) rfl
    rw [hz] at this; exact this
  refine ⟨⟨_, he, rfl⟩, h _ he (Heap.get?_push_of_some _ (Heap.get?_push_size _ B.free)) (by rw [Heap.size_push, hz]) fun b o x => Heap.get?_push_of_some _ (Heap.get?_push_of_some _ x)⟩
def iEnumQ (K : PySem.W.Frag) (ta : TA) : TI := fun σ H R => ta σ H fun vs H1 => ∃ a kd xs, vs = [.ref a] ∧ Sq kd K H1 a xs ∧ R (IteQ kd K a) H1
theorem pi_enumQ {X : Cx} {e : Expr} {ta : TA} {p pos tpos : Pos} {elts : List Expr} {kk : Nat} (hg : Gl X "enumerate") (hm : X.mg "enumerate" = none) (ha : PA X [e] ta) (hs : starEach [e] X.env = [(false, eval e X.env)] := by rfl) :
    PI X (.Tuple elts kk tpos) (.Call (.Name "enumerate" p) [e] [] pos) (iEnumQ X.K ta) := by
  refine ⟨fun pins s σ H R I h => ?_⟩
  refine Call_ (ld_blt I hg hm boot_enumerate (PyProof.Rows.callWith_type1 (thn (ha.run pos pins s σ H _ I h) fun us s1 ⟨vs, H1, I1, r1, q1⟩ => ?_) hs rfl))
  obtain ⟨a, kd, xs, ex, hq, q⟩ := q1
  subst ex
  cases r1 with
  | cons r rr =>
    cases rr
    cases r
    obtain ⟨its, rv, p', hz⟩ := sq_at I1 hq
    have la := p'.lt
    refine enum_begins1 (sbegins kd a its.toArray) p' fun h' he hit hsz hk => wpAny_pyIter_enum he ?_
    have I2 : Inv X pins σ H1 { s1 with heap := h' } := I1.kept (t' := s1.toks) hk
    refine ⟨s1.heap.objs.size + 1, [s1.heap.objs.size + 1, s1.heap.objs.size], _, _, H1, rfl, I2, turn_enumQ (Nat.ne_of_lt la) (Nat.ne_of_gt (Nat.lt_succ_of_lt la)), ⟨⟨.none, he⟩, siter0 hit, Nat.succ_ne_self _⟩, fun b hb => ?_, q⟩
    have e' : b = s1.heap.objs.size + 1 ∨ b = s1.heap.objs.size := by simpa using hb
    have hle : s1.heap.objs.size ≤ b := by
      rcases e' with z | z
      · rw [z]; exact Nat.le_add_right _ _
      · rw [z]; exact Nat.le_refl _
    exact I1.fpOk hle (I1.hok.fresh hle)
theorem walk_enumQ {K : PySem.W.Frag} {kd : Bool} {a : Addr} {xs : List V} : Walk (IteQ kd K a) xs.length (fun H => Sq kd K H a xs) (YPair (fun i => some (.int (i : Nat))) (fun i => xs[i]?)) :=
  ⟨fun i H hi h1 => ⟨xs, _, h1, List.getElem?_eq_getElem hi⟩, fun H h1 => ⟨xs, h1, rfl⟩,
    fun i H x H' hi h1 ⟨T, u, e1, e2, e3, e4⟩ => ⟨T, _, u, e1, e2, e3, rfl, e4 _ h1⟩⟩
end Ft
set_option Elab.async false
set_option linter.all false
set_option maxRecDepth 100000
set_option maxHeartbeats 4000000
namespace Ft
open PySem PySem.Spec PyProof.Rows L2
/-- the built-in names that the text uses are the built-ins -/
structure Bl (mg : Str → Option Value) : Prop where
  int : mg "int" = none
  len : mg "len" = none
  range : mg "range" = none
  isinstance : mg "isinstance" = none
  tuple : mg "tuple" = none
  list : mg "list" = none
  dict : mg "dict" = none
  str : mg "str" = none
  bool : mg "bool" = none
  sorted : mg "sorted" = none
  zip : mg "zip" = none
  enumerate : mg "enumerate" = none
  all : mg "all" = none
  max : mg "max" = none
  min : mg "min" = none
  sum : mg "sum" = none
  any : mg "any" = none
/-- a def of the module that keeps its promise -/
structure Own (P : Program) (w : World) (K : PySem.W.Frag) (mg : Str → Option Value) (base : Heap) (k : Nat) (x : Str) (ps : List Str) (sp : Sp) : Prop where
  ex : ∃ (f : Addr) (fd : FuncData), FnOk P w K mg base CX0 k f fd ps sp ∧ mg x = some (.ref f) ∧ PySem.W.keepIn K (.ref f) = true ∧ Binds K fd ps []
theorem Own.mono {P : Program} {w : World} {K : PySem.W.Frag} {mg : Str → Option Value} {base : Heap} {j k : Nat} {x : Str} {ps : List Str} {sp : Sp} (G : Own P w K mg base j x ps sp) (h : j ≤ k) : Own P w K mg base k x ps sp := by
  obtain ⟨f, fd, F, r⟩ := G.ex
  exact ⟨f, fd, F.mono h, r⟩
theorem Own.imp {P : Program} {w : World} {K : PySem.W.Frag} {mg : Str → Option Value} {base : Heap} {k : Nat} {x : Str} {ps : List Str} {sp sp' : Sp} (G : Own P w K mg base k x ps sp) (h : ∀ vs H Q E, sp' vs H Q E → sp vs H Q E) : Own P w K mg base k x ps sp' := by
  obtain ⟨f, fd, F, r⟩ := G.ex
  exact ⟨f, fd, F.imp h, r⟩
section
variable {X : Cx}
theorem pe_own {e : Expr} {es : List Expr} {t : TA} {p pos : Pos} {k : Nat} {x : Str} {ps : List Str} {sp : Sp} (G : Own X.prog X.w X.K X.mg X.base k x ps sp) (hr : Room k X.A) (hg : Gl X x) (ha : PA X (e :: es) t)
    (hdb : (x == ("__debug__" : Str)) = false := by decide) (he : starEach (e :: es) X.env = (false, eval e X.env) :: starEach es X.env := by rfl) (hpl : (backTo pos (starEach es X.env)).any (·.1) = false := by rfl) :
    PE X (.Call (.Name x p) (e :: es) [] pos) (tCall sp [] E0 t) := by
  obtain ⟨f, fd, F, m, kp, b⟩ := G.ex
  exact pe_call F hr hg m kp b .nil pass0 ha hdb he hpl
end
/-- a statement, then the rest, with a word between them -/
def tCut (t u : TS) : TS := fun D σ H => ∃ Mid : L2.St → Hp → Prop, t { D with nx := Mid } σ H ∧ ∀ σ' H', Mid σ' H' → u D σ' H'
theorem pss_cut {X : Cx} {st : Stmt} {rest : List Stmt} {t u : TS} (h1 : PS X st t) (h2 : PSs X rest u) : PSs X (st :: rest) (tCut t u) := by
  refine ⟨fun pins s σ H D I h => ?_⟩
  obtain ⟨Mid, hm, hu⟩ := h
  refine wpAny_execs_cons (thn (h1.run pins s σ H { D with nx := Mid } I hm) fun f s1 q => ?_)
  cases f with
  | next =>
    obtain ⟨σ', H', I', q⟩ := q
    exact h2.run pins s1 σ' H' D I' (hu σ' H' q)
  | ret v => exact q
  | brk => exact q
  | cont => exact q
/-- an expression with a word behind it -/
def tMid (t : TE) : TE := fun σ H Q => ∃ Mid : V → Hp → Prop, t σ H Mid ∧ ∀ v H', Mid v H' → Q v H'
theorem pe_mid {X : Cx} {e : Expr} {t : TE} (h : PE X e t) : PE X e (tMid t) := by
  refine ⟨fun pins s σ H Q I q => ?_⟩
  obtain ⟨Mid, hm, hu⟩ := q
  refine thn (h.run pins s σ H _ I hm) fun v s1 ⟨x, H1, I1, r1, q1⟩ => ?_
  exact ⟨x, H1, I1, r1, hu _ _ q1⟩
def tMidT (t : TT) : TT := fun σ H Q => ∃ Mid : Bool → Hp → Prop, t σ H Mid ∧ ∀ v H', Mid v H' → Q v H'
theorem pt_mid {X : Cx} {e : Expr} {t : TT} (h : PT X e t) : PT X e (tMidT t) := by
  refine ⟨fun pins s σ H Q I q => ?_⟩
  obtain ⟨Mid, hm, hu⟩ := q
  refine thn (h.run pins s σ H _ I hm) fun v s1 ⟨H1, I1, q1⟩ => ?_
  exact ⟨H1, I1, hu _ _ q1⟩
theorem own_mk {P : Program} {w : World} {K : PySem.W.Frag} {mg : Str → Option Value} {base : Heap} {x : Str} {st : Stmt} {f : Addr} {fd : FuncData} {k : Nat} {ps : List Str} {sp : Sp} (F : Fun K x x st f fd) (m : mg x = some (.ref f)) (b : Binds K fd ps []) (ok : FnOk P w K mg base CX0 k f fd ps sp) : Own P w K mg base k x ps sp :=
  ⟨f, fd, ok, m, F.kp, b⟩
theorem fn_false {P : Program} {w : World} {K : PySem.W.Frag} {mg : Str → Option Value} {base : Heap} {f : Addr} {fd : FuncData} {k : Nat} {ps : List Str} : FnOk P w K mg base CX0 k f fd ps (fun _ _ _ _ => False) :=
  ⟨fun _ _ _ _ h => h.elim, fun _ _ _ _ _ _ _ _ _ _ _ _ _ h => h.elim⟩
theorem ixK {X : Cx} {K : PySem.W.Frag} (r : PySem.W.Frag → R2) (h : IxR X (r X.K)) (e : X.K = K) : IxR X (r K) := by subst e; exact h
theorem opK {X : Cx} {K : PySem.W.Frag} {f : Value → Value → Sem Value} (r : PySem.W.Frag → R2) (h : OpR X f (r X.K)) (e : X.K = K) : OpR X f (r K) := by subst e; exact h
theorem callK {X : Cx} {K : PySem.W.Frag} {f : Value} (r : PySem.W.Frag → List V → Hp → VK → Prop) (h : CallR X f (r X.K)) (e : X.K = K) : CallR X f (r K) := by subst e; exact h
theorem slK {X : Cx} {K : PySem.W.Frag} (r : PySem.W.Frag → V → Option Int → Option Int → Hp → VK → Prop) (h : SlR X (r X.K)) (e : X.K = K) : SlR X (r K) := by subst e; exact h
theorem pi_listK {X : Cx} {K : PySem.W.Frag} {tg l : Expr} {tl : TE} (hl : PE X l tl) (k : X.K = K) : PI X tg l (iList K tl) := by subst k; exact pi_list hl
def Fr (ok : Addr → Prop) (H H' : Hp) : Prop := ∀ b o, ok b → H b = some o → H' b = some o
theorem Fr.refl {ok : Addr → Prop} {H : Hp} : Fr ok H H := fun _ _ _ h => h
theorem Fr.trans {ok : Addr → Prop} {H H1 H2 : Hp} (a : Fr ok H H1) (b : Fr ok H1 H2) : Fr ok H H2 := fun c o k h => b c o k (a c o k h)
theorem Fr.put {ok : Addr → Prop} {H : Hp} {p : Addr} {o : HO} (h : ¬ ok p) : Fr ok H (upd H p o) := fun b u k e => by
  rw [upd_ne (show b ≠ p from fun z => h (by rw [← z]; exact k))]; exact e
theorem Fr.mono {ok ok' : Addr → Prop} {H H' : Hp} (a : Fr ok H H') (h : ∀ b, ok' b → ok b) : Fr ok' H H' := fun b o k e => a b o (h b k) e
theorem Fr.same {ok : Addr → Prop} {H H' : Hp} (a : Same H H') : Fr ok H H' := fun b o _ e => a b o e
theorem Fr.free {H H' : Hp} {ok : Addr → Prop} (e : Fr ok H H') {l : Addr} (k : ok l) (h : H' l = none) : H l = none := by
  cases q : H l with
  | none => rfl
  | some o => rw [e l o k q] at h; cases h
theorem Fr.upN {ok : Addr → Prop} {G H : Hp} {p : Addr} {o : HO} (a : Fr ok G H) (h : G p = none) : Fr ok G (upd H p o) := fun b u k e => by
  rw [upd_ne (ne_of_none e h)]; exact a b u k e
theorem Same.upN {G H : Hp} {p : Addr} {o : HO} (a : Same G H) (h : G p = none) : Same G (upd H p o) := fun b u e => by
  rw [upd_ne (ne_of_none e h)]; exact a b u e
theorem Same.new {H : Hp} {p : Addr} {o : HO} (h : H p = none) : Same H (upd H p o) := fun b u e => by
  rw [upd_ne (ne_of_none e h)]; exact e
def mkO (kd : Bool) (xs : List V) : HO := match kd with
  | true => .lst xs
  | false => .tup xs
theorem sq_of {kd : Bool} {K : PySem.W.Frag} {H : Hp} {a : Addr} {xs : List V} (h : H a = some (mkO kd xs)) : Sq kd K H a xs := by
  cases kd with
  | true => exact SqL.of h
  | false => exact SqT.of h
theorem sqa_of {kd : Bool} {K : PySem.W.Frag} {H : Hp} {a : Addr} {xs : List V} (h : Sq kd K H a xs) : SqL K H a xs ∨ SqT K H a xs := by
  cases kd with
  | true => exact .inl h
  | false => exact .inr h
theorem small {n : Nat} (h : n ≤ 1000000) : n < sizeLine := Nat.lt_of_le_of_lt h (by decide)
theorem smallE {n : Nat} (h : n ≤ 1000000) : n ≤ sizeLine := Nat.le_of_lt (small h)
theorem big {n : Nat} (h : n ≤ 16000000) : n < sizeLine := Nat.lt_of_le_of_lt h (by decide)
/-- at a there is a source whose count is n; what may change is the first number and the count -/
def Src (H : Hp) (a : Addr) (n : Int) : Prop := ∃ d s, H a = some (.lst [.int d, .int s, .int n]) ∧ 0 ≤ s ∧ s < 2 ^ 40 ∧ 0 ≤ n
theorem Src.ne {H : Hp} {a p : Addr} {n : Int} {o : HO} (x : Src H a n) (h : a ≠ p) : Src (upd H p o) a n := by
  obtain ⟨d, s, e, r⟩ := x
  exact ⟨d, s, by rw [upd_ne h]; exact e, r⟩
theorem Src.fr {H H' : Hp} {a : Addr} {n : Int} {ok : Addr → Prop} (x : Src H a n) (f : Fr ok H H') (k : ok a) : Src H' a n := by
  obtain ⟨d, s, e, r⟩ := x
  exact ⟨d, s, f _ _ k e, r⟩
theorem Src.is {H : Hp} {a : Addr} {n : Int} (x : Src H a n) : ∃ o, H a = some o := by
  obtain ⟨d, s, e, r⟩ := x
  exact ⟨_, e⟩
theorem Src.nn {H : Hp} {a p : Addr} {n : Int} (x : Src H a n) (h : H p = none) : p ≠ a := by
  obtain ⟨d, s, e, r⟩ := x
  exact (ne_of_none e h).symm
theorem getD_mem {xs : List V} {k : Int} (h0 : 0 ≤ k) (h1 : k < (xs.length : Int)) : ∃ x, atI xs k = some x ∧ x ∈ xs := by
  have hk : k.toNat < xs.length := by omega
  obtain ⟨j, rfl⟩ : ∃ j : Nat, k = (j : Int) := ⟨k.toNat, by omega⟩
  exact ⟨xs[j], atI_nat (List.getElem?_eq_getElem (by omega)), List.getElem_mem _⟩
end Ft
set_option Elab.async false
set_option linter.all false
set_option maxRecDepth 100000
set_option maxHeartbeats 4000000
namespace Ft
open PySem L2
def topS (i : Nat) : Stmt := PySem.Challenge.pw_firsttouch_k55_rings_told.main.body.getD i (.Pass ⟨0, 0, 0, 0⟩)
end Ft
set_option Elab.async false
set_option linter.all false
set_option maxRecDepth 100000
set_option maxHeartbeats 4000000
namespace Ft
open PySem L2
/-- a word: one to eight small letters -/
def isW (z : Str) : Bool := decide (1 ≤ z.length) && (decide (z.length ≤ 8) && z.cps.toList.all fun c => decide (97 ≤ c) && decide (c ≤ 122))
theorem inV_iff {z : Str} : ∀ {ws : List Str}, inV (.str z) (ws.map V.str) = decide (z ∈ ws)
  | [] => rfl
  | y :: ws => by
    show (eqV (.str y) (.str z) || inV (.str z) (ws.map V.str)) = _
    rw [inV_iff (ws := ws)]
    show ((y == z) || decide (z ∈ ws)) = _
    by_cases e : z = y
    · subst e; simp
    · have e' : ¬ y = z := fun h => e h.symm
      simp [e, e']
end Ft
set_option Elab.async false
set_option linter.all false
set_option maxRecDepth 100000
set_option maxHeartbeats 4000000
namespace Ft
open PySem PySem.Spec PyProof.Rows L2
def kitAnyB (T : String) : List String → Option Bool
  | [] => some false
  | c :: cs => match kitB T c with
    | some true => some true
    | some false => kitAnyB T cs
    | none => none
theorem kitAny_of {K : PySem.W.Frag} {T : String} : ∀ {cs : List String} {b : Bool}, kitAnyB T cs = some b → PySem.W.kitAny K (.type T) (cs.map Value.type) = some b
  | [], b, h => by
    have : false = b := Option.some.inj h
    subst this
    exact kitAny_nil
  | c :: cs, b, h => by
    unfold kitAnyB at h
    cases e : kitB T c with
    | none => rw [e] at h; cases h
    | some x =>
      rw [e] at h
      cases x with
      | true =>
        have : true = b := Option.some.inj h
        subst this
        exact kitAny_cons (kit_ty e) (fun z => by cases z) (fun _ => rfl)
      | false => exact kitAny_cons (kit_ty e) (fun _ => kitAny_of h) (fun z => by cases z)
theorem clsV_all : ∀ (cs : List String), Paired ClsV (cs.map V.ty) (cs.map Value.type)
  | [] => .nil
  | c :: cs => .cons (.ty c) (clsV_all cs)
def isAtom : V → Bool
  | .non => true
  | .bl _ => true
  | .int _ => true
  | .str _ => true
  | _ => false
def atomT : V → String
  | .non => "NoneType"
  | .bl _ => "bool"
  | .int _ => "int"
  | .str _ => "str"
  | _ => ""
def seqT (kd : Bool) : String := if kd then "list" else "tuple"
theorem atom_ty {K : PySem.W.Frag} {H : Hp} {x : V} (h : isAtom x = true) : TyX K H x (.type (atomT x)) := by
  cases x with
  | non => exact .base .non
  | bl b => exact .base (.bl b)
  | int i => exact .base (.int i)
  | str z => exact .base (.str z)
  | _ => cases h
theorem seq_ty {K : PySem.W.Frag} {H : Hp} {a : Addr} {kd : Bool} {xs : List V} (h : H a = some (mkO kd xs)) : TyX K H (.ref a) (.type (seqT kd)) := by
  cases kd with
  | true => exact .base (.lst h)
  | false => exact .base (.tup h)
theorem atom_lt {x : V} (h : isAtom x = true) : kitAnyB (atomT x) ["list", "tuple"] = some false := by
  cases x with
  | non => decide +kernel
  | bl b => show kitAnyB "bool" ["list", "tuple"] = some false; decide +kernel
  | int i => show kitAnyB "int" ["list", "tuple"] = some false; decide +kernel
  | str z => show kitAnyB "str" ["list", "tuple"] = some false; decide +kernel
  | _ => cases h
theorem seq_lt (kd : Bool) : kitAnyB (seqT kd) ["list", "tuple"] = some true := by cases kd <;> decide +kernel
end Ft
set_option Elab.async false
set_option linter.all false
set_option maxRecDepth 100000
set_option maxHeartbeats 4000000
namespace Ft
open PySem L2
def letters : Str := "abcdefghijklmnopqrstuvwxyz"
theorem letters_mem (c : Nat) : decide (c ∈ letters.cps.toList) = (decide (97 ≤ c) && decide (c ≤ 122)) := by
  have e : letters.cps.toList = List.range' 97 26 := by decide +kernel
  rw [e]
  have : (c ∈ List.range' 97 26) ↔ (97 ≤ c ∧ c ≤ 122) := by
    rw [List.mem_range'_1]
    omega
  by_cases h1 : 97 ≤ c
  · by_cases h2 : c ≤ 122
    · rw [decide_eq_true (this.mpr ⟨h1, h2⟩), decide_eq_true h1, decide_eq_true h2]; rfl
    · rw [decide_eq_false fun h => h2 (this.mp h).2, decide_eq_true h1, decide_eq_false h2]; rfl
  · rw [decide_eq_false fun h => h1 (this.mp h).1, decide_eq_false h1]; rfl
/-- whether a value is a word -/
def wordV : V → Bool
  | .str z => isW z
  | _ => false
/-- .. by its length alone -/
def lenV : V → Bool
  | .str z => decide (1 ≤ z.length) && decide (z.length ≤ 8)
  | _ => false
theorem lenV_str (z : Str) : lenV (.str z) = (decide (1 ≤ z.length) && decide (z.length ≤ 8)) := rfl
def intV : V → Bool
  | .int _ => true
  | _ => false
section
variable {P : Program} {w : World} {K : PySem.W.Frag} {mg : Str → Option Value} {base : Heap}
/-- what is known of any object that is asked -/
def Known (K : PySem.W.Frag) (H : Hp) (v : V) : Prop := (∃ z : Str, v = .str z ∧ z.length ≤ sizeLine) ∨ v = .non ∨ (∃ b, v = .bl b) ∨ (∃ i, v = .int i) ∨ ∃ a T, v = .ref a ∧ TyX K H v (.type T) ∧ T ∈ ["list", "tuple", "dict"]
abbrev sIsInteger : Stmt := topS 12
theorem scIsInteger : FnScope ["thing"] ["thing"] (defScope sIsInteger) := ⟨rfl, rfl, rfl, by decide +kernel, rfl, by decide +kernel, by decide +kernel⟩
def spIsInteger (K : PySem.W.Frag) : Sp := fun vs H Q _ => ∃ v, vs = [v] ∧ Known K H v ∧ Q (.bl (intV v)) H
theorem ok_IsInteger {f : Addr} {fd : FuncData} {k : Nat} (F : Fun K "is_integer" "is_integer" sIsInteger f fd) (B : Bl mg) : FnOk P w K mg base CX0 (k + 1) f fd ["thing"] (spIsInteger K) := by
  refine F.ok scIsInteger (fun vs H Q E h => ?_) (fun cdv A outer s H vs Q E hr h => ?_)
  · obtain ⟨v, rfl, _⟩ := h
    rfl
  obtain ⟨v, rfl, hv, q⟩ := h
  refine ⟨_, (pss_one (ps_ret (pe_and (pe_callB call_isi (by rfl) B.isinstance (by decide +kernel) (pa_cons (pv 0) (pa_cons (pe_bltn (v := .ty "int") (by rfl) B.int (by decide +kernel) rfl) pa_nil))) (pe_one (pe_not (pe_callB call_isi (by rfl) B.isinstance (by decide +kernel) (pa_cons (pv 0) (pa_cons (pe_bltn (v := .ty "bool") (by rfl) B.bool (by decide +kernel) rfl) pa_nil)))))))), ?_⟩
  rcases hv with ⟨z, rfl, hz⟩ | rfl | ⟨b, rfl⟩ | ⟨i, rfl⟩ | ⟨a, T, rfl, ht, hm⟩
  · exact ⟨_, rfl, _, _, _, _, _, rfl, .ty _, .base (.str z), kit_ty (r := false) (by decide +kernel), false, rfl, iteF q⟩
  · exact ⟨_, rfl, _, _, _, _, _, rfl, .ty _, .base .non, kit_ty (r := false) (by decide +kernel), false, rfl, iteF q⟩
  · exact ⟨_, rfl, _, _, _, _, _, rfl, .ty _, .base (.bl b), kit_ty (r := true) (by decide +kernel), true, rfl, iteT ⟨_, rfl, _, _, _, _, _, rfl, .ty _, .base (.bl b), kit_ty (r := true) (by decide +kernel), true, rfl, q⟩⟩
  · exact ⟨_, rfl, _, _, _, _, _, rfl, .ty _, .base (.int i), kit_ty (r := true) (by decide +kernel), true, rfl, iteT ⟨_, rfl, _, _, _, _, _, rfl, .ty _, .base (.int i), kit_ty (r := false) (by decide +kernel), false, rfl, q⟩⟩
  · have hk : kitB T "int" = some false := by
      have : ∀ T ∈ ["list", "tuple", "dict"], kitB T "int" = some false := by decide +kernel
      exact this T hm
    exact ⟨_, rfl, _, _, _, _, _, rfl, .ty _, ht, kit_ty hk, false, rfl, iteF q⟩
abbrev sIsWord : Stmt := topS 13
theorem scIsWord : FnScope ["thing", "sign"] ["thing"] (defScope sIsWord) := ⟨rfl, rfl, rfl, by decide +kernel, rfl, by decide +kernel, by decide +kernel⟩
def spIsWord (K : PySem.W.Frag) : Sp := fun vs H Q _ => ∃ v, vs = [v] ∧ Known K H v ∧ ∀ H', Same H H' → Q (.bl (wordV v)) H'
theorem ok_IsWord {f : Addr} {fd : FuncData} {k : Nat} {tL : Tok} (F : Fun K "is_word" "is_word" sIsWord f fd) (B : Bl mg) (mL : mg "LETTERS" = some (.str letters tL)) : FnOk P w K mg base CX0 (k + 1) f fd ["thing"] (spIsWord K) := by
  refine F.ok scIsWord (fun vs H Q E h => ?_) (fun cdv A outer s H vs Q E hr h => ?_)
  · obtain ⟨v, rfl, _⟩ := h
    rfl
  obtain ⟨v, rfl, hv, q⟩ := h
  refine ⟨_, (pss_cons (ps_if (pt_mid (PW.pt (pw_or (pt_not (pt_val (pe_callB call_isi (by rfl) B.isinstance (by decide +kernel) (pa_cons (pv 0) (pa_cons (pe_bltn (v := .ty "str") (by rfl) B.str (by decide +kernel) rfl) pa_nil))))) (pw_or1 (pt_not (pt_chain op_le op_le pe_int (pe_callB call_len_str (by rfl) B.len (by decide +kernel) (pa_cons (pv 0) pa_nil)) pe_int)))))) (pss_one (ps_ret pe_bl)) pss_nil)
      (pss_one (ps_ret (pe_callB (cr_all rfl) (by rfl) B.all (by decide +kernel) (pa_cons (pe_lc (own := [("sign", 1)]) (g := (gName 1)) (tt := tYes) (by rfl) scIsWord.nd (pi_str (pv 0)) (blkOk_by (own := [("sign", 1)]) (N := ["thing", "sign"]) (sc := defScope sIsWord) (by decide +kernel)) (fun _ _ _ _ _ => (pg_name (i := 1) scIsWord.nd rfl (by first | exact Or.inl rfl | exact Or.inr rfl))) (fun _ _ _ _ _ => pts_nil) (fun _ _ _ _ _ => (pe_cmpR op_in_sign (pv 1) (pe_glob (v := .str letters) (by rfl) mL ⟨_, rfl⟩) (by rfl)))) pa_nil))))), ?_⟩
  refine ⟨fun b H' => H = H' ∧ b = !lenV v, ?_, ?_⟩
  · have no : ∀ {T : String}, TyX K H v (.type T) → kitB T "str" = some false → lenV v = false → rIsi K [v, .ty "str"] H fun x H1 => ∃ k, x = V.bl k ∧ if (!k) = true then (H = H1 ∧ true = !lenV v) else False := fun {T} t hk hw =>
      ⟨_, _, _, _, _, rfl, .ty _, t, kit_ty hk, false, rfl, iteT ⟨rfl, by rw [hw]; rfl⟩⟩
    rcases hv with ⟨z, rfl, hz⟩ | rfl | ⟨b, rfl⟩ | ⟨i, rfl⟩ | ⟨a, T, rfl, ht, hm⟩
    · refine ⟨_, rfl, _, _, _, _, _, rfl, .ty _, .base (.str z), kit_ty (r := true) (by decide +kernel), true, rfl, iteF ?_⟩
      refine ⟨_, rfl, _, rfl, hz, 1, _, rfl, rfl, _, rfl, ite2 (fun c => ?_) (fun c => ?_)⟩
      · have c' : (1 : Int) ≤ z.length := of_decide_eq_true c
        refine ⟨_, 8, rfl, rfl, _, rfl, rfl, ?_⟩
        rw [lenV_str]
        have e1 : decide (1 ≤ z.length) = true := decide_eq_true (by omega)
        rw [e1, Bool.true_and]
        congr 1
        exact decide_eq_decide.mpr (by omega)
      · have c' : ¬ (1 : Int) ≤ z.length := fun h => c (decide_eq_true h)
        refine ⟨_, rfl, rfl, ?_⟩
        rw [lenV_str, decide_eq_false (show ¬ 1 ≤ z.length by omega)]
        rfl
    · exact ⟨_, rfl, _, _, _, _, _, rfl, .ty _, .base .non, kit_ty (r := false) (by decide +kernel), false, rfl, iteT ⟨rfl, rfl⟩⟩
    · exact ⟨_, rfl, _, _, _, _, _, rfl, .ty _, .base (.bl b), kit_ty (r := false) (by decide +kernel), false, rfl, iteT ⟨rfl, rfl⟩⟩
    · exact ⟨_, rfl, _, _, _, _, _, rfl, .ty _, .base (.int i), kit_ty (r := false) (by decide +kernel), false, rfl, iteT ⟨rfl, rfl⟩⟩
    · have hk : kitB T "str" = some false := by
        have : ∀ T ∈ ["list", "tuple", "dict"], kitB T "str" = some false := by decide +kernel
        exact this T hm
      exact ⟨_, rfl, _, _, _, _, _, rfl, .ty _, ht, kit_ty hk, false, rfl, iteT ⟨rfl, rfl⟩⟩
  rintro b _ ⟨rfl, rfl⟩
  cases hl : lenV v with
  | false =>
    refine iteT ?_
    have hw : wordV v = false := by
      cases v with
      | str z =>
        show isW z = false
        rw [lenV_str] at hl
        unfold isW
        rw [← Bool.and_assoc, hl]
        rfl
      | _ => rfl
    have := q H (Same.refl H)
    rw [hw] at this
    exact this
  | true =>
    refine iteF ?_
    obtain ⟨z, rfl⟩ : ∃ z, v = .str z := by
      cases v with
      | str z => exact ⟨z, rfl⟩
      | _ => cases hl
    have hw : wordV (.str z) = z.cps.toList.all fun c => decide (97 ≤ c) && decide (c ≤ 122) := by
      show isW z = _
      rw [lenV_str] at hl
      unfold isW
      rw [← Bool.and_assoc, hl]
      rfl
    have hsz : z.length ≤ 8 := by
      rw [lenV_str, Bool.and_eq_true] at hl
      exact of_decide_eq_true hl.2
    refine ⟨_, rfl, z, rfl, fun D nD => ?_⟩
    refine lc_it walk_str (fun i H' => Same H H' ∧ H' D = some (.lst (((z.cps.toList.take i).map fun c => decide (97 ≤ c) && decide (c ≤ 122)).map V.bl)))
      ⟨Same.new nD, upd_same⟩ (fun _ _ _ _ => trivial) ?_ ?_
    · rintro i x H1 H2 hi ⟨sm, hD⟩ ⟨rfl, c, hc, rfl⟩
      refine ⟨rfl, ?_⟩
      refine ⟨_, rfl, c, letters, rfl, rfl, _, hD, ?_, Same.upN sm nD, ?_⟩
      · rw [List.length_map, List.length_map, List.length_take]
        have : z.cps.toList.length = z.length := rfl
        exact small (by omega)
      · have hc' : z.cps.toList[i]? = some c := by rw [Array.getElem?_toList]; exact hc
        rw [upd_same, List.take_add_one, hc', List.map_append, List.map_append, letters_mem]
        rfl
    · rintro H1 ⟨sm, hD⟩
      have e : z.cps.toList.take z.cps.size = z.cps.toList := List.take_of_length_le (by simp)
      rw [e] at hD
      refine ⟨D, _, rfl, SqL.of hD, ?_⟩
      have e2 : ((z.cps.toList.map fun c => decide (97 ≤ c) && decide (c ≤ 122)).all id) = wordV (.str z) := by
        rw [hw, List.all_map]
        rfl
      rw [e2]
      exact q _ sm
end
end Ft
set_option Elab.async false
set_option linter.all false
set_option maxRecDepth 100000
set_option maxHeartbeats 4000000
namespace Ft
open PySem L2
theorem sl_seq {X : Cx} : SlR X (fun x lo hi H Q => rSlL X.K x lo hi H Q ∨ rSlT X.K x lo hi H Q) := SlR.or sl_list sl_tup
theorem TyOf.same {K : PySem.W.Frag} {H H' : Hp} {v : V} {t : Value} (h : TyOf K H v t) (s : Same H H') : TyOf K H' v t := by
  cases h with
  | non => exact .non
  | bl x => exact .bl x
  | int i => exact .int i
  | str x => exact .str x
  | flt x => exact .flt x
  | lst e => exact .lst (s _ _ e)
  | frz e => exact .frz (s _ _ e)
  | tup e => exact .tup (s _ _ e)
  | dK e => exact .dK (s _ _ e)
  | dT e => exact .dT (s _ _ e)
  | ins e a b c d f => exact .ins (s _ _ e) a b c d f
theorem TyX.same {K : PySem.W.Frag} {H H' : Hp} {v : V} {t : Value} (h : TyX K H v t) (s : Same H H') : TyX K H' v t := by
  cases h with
  | base h => exact .base (TyOf.same h s)
  | byt b => exact .byt b
  | set e => exact .set (s _ _ e)
  | kList e c => exact .kList e c
  | kTuple e c => exact .kTuple e c
  | kDict e c => exact .kDict e c
  | fTuple e => exact .fTuple (s _ _ e)
  | fDict e => exact .fDict (s _ _ e)
theorem Known.same {K : PySem.W.Frag} {H H' : Hp} {v : V} (h : Known K H v) (s : Same H H') : Known K H' v := by
  rcases h with h | h | h | h | ⟨a, T, e, t, m⟩
  · exact .inl h
  · exact .inr (.inl h)
  · exact .inr (.inr (.inl h))
  · exact .inr (.inr (.inr (.inl h)))
  · exact .inr (.inr (.inr (.inr ⟨a, T, e, TyX.same t s, m⟩)))
/-- .. and whether it is a list or a tuple -/
def KnownS (K : PySem.W.Frag) (H : Hp) (sq : V → Bool) (v : V) : Prop := Known K H v ∧ ∃ T, TyX K H v (.type T) ∧ kitAnyB T ["list", "tuple"] = some (sq v)
theorem KnownS.same {K : PySem.W.Frag} {H H' : Hp} {sq : V → Bool} {v : V} (h : KnownS K H sq v) (s : Same H H') : KnownS K H' sq v := by
  obtain ⟨h1, T, h2, h3⟩ := h
  exact ⟨h1.same s, T, TyX.same h2 s, h3⟩
theorem rIx_seq {kd : Bool} {K : PySem.W.Frag} {H : Hp} {a : Addr} {xs : List V} {i : Int} {v : V} {Q : VK} (h : Sq kd K H a xs) (e : atI xs i = some v) (q : Q v H) : rIx K (.ref a) (.int i) H Q := by
  cases kd with
  | true => exact .inl ⟨a, xs, i, v, rfl, rfl, h, e, q⟩
  | false => exact .inr (.inl ⟨a, xs, i, v, rfl, rfl, h, e, q⟩)
def fieldsT : List (Str × List Str) := [("load", ["word", "word"]), ("pick", ["word", "word", "word"]), ("put", ["word", "number"]), ("copy", ["word", "word"]), ("part", ["word", "word", "word"]), ("drop", ["word"]), ("say", ["number"]), ("tell", ["word"]), ("seen", ["word", "word"]), ("fail", ["number"]), ("make", ["word", "block"]), ("call", ["word"]), ("when", ["word", "block", "block"]), ("try", ["block", "block"])]
def fieldsOf (z : Str) : Option (List Str) := (fieldsT.find? fun p => decide (p.1 = z)).map (·.2)
theorem fieldsOf_some {z : Str} {fs : List Str} (h : fieldsOf z = some fs) : (z, fs) ∈ fieldsT := by
  unfold fieldsOf at h
  obtain ⟨p, hp, e⟩ := Option.map_eq_some_iff.mp h
  have h1 := List.mem_of_find?_eq_some hp
  have h2 : p.1 = z := by simpa using List.find?_some hp
  rw [← h2, ← e]
  exact h1
theorem fieldsOf_none {z : Str} (h : fieldsOf z = none) : z ∉ fieldsT.map (·.1) := by
  intro hz
  obtain ⟨p, hp, e⟩ := List.mem_map.mp hz
  unfold fieldsOf at h
  have := List.find?_eq_none.mp (Option.map_eq_none_iff.mp h) p hp
  exact this (decide_eq_true e)
theorem fields_len {z : Str} {fs : List Str} (h : (z, fs) ∈ fieldsT) : fs.length ≤ 3 := by
  have : ∀ p ∈ fieldsT, p.2.length ≤ 3 := by decide +kernel
  exact this _ h
/-- the written table of the fields -/
structure FldT (K : PySem.W.Frag) (w : World) (mg : Str → Option Value) (dF : Addr) : Prop where
  g : mg "FIELDS" = some (.ref dF)
  dict : ∃ es n, KDict K w dF es n
  val : ∀ p ∈ fieldsT, ∃ tA, PySem.W.nsIn K dF p.1 = some (some (.ref tA)) ∧ ∀ H, SqT K H tA (p.2.map V.str)
  no : ∀ z, z ∉ fieldsT.map (·.1) → PySem.W.nsIn K dF z = some none
def fieldB (sq : V → Bool) (f : Str) (v : V) : Bool := if f = "word" then wordV v else if f = "number" then intV v else sq v
/-- whether things are a row, but for the rows in its blocks -/
def rowB (sq : V → Bool) (wi : Bool) : List V → Bool
  | .str z :: rest => match fieldsOf z with
    | some fs => !(wi && (decide (z = "make") || decide (z = "call"))) && (decide (rest.length = fs.length) && ((fs.zip rest).all fun p => fieldB sq p.1 p.2))
    | none => false
  | _ => false
theorem rowB_str (sq : V → Bool) (wi : Bool) (z : Str) (rest : List V) : rowB sq wi (.str z :: rest) = match fieldsOf z with
    | some fs => !(wi && (decide (z = "make") || decide (z = "call"))) && (decide (rest.length = fs.length) && ((fs.zip rest).all fun p => fieldB sq p.1 p.2))
    | none => false := rfl
section
variable {P : Program} {w : World} {K : PySem.W.Frag} {mg : Str → Option Value} {base : Heap}
abbrev sIsField : Stmt := topS 18
theorem scIsField : FnScope ["field", "part"] ["field", "part"] (defScope sIsField) := ⟨rfl, rfl, rfl, by decide +kernel, rfl, by decide +kernel, by decide +kernel⟩
def spIsField (K : PySem.W.Frag) : Sp := fun vs H Q _ => ∃ (f : Str) (v : V) (sq : V → Bool), vs = [.str f, v] ∧ KnownS K H sq v ∧ ∀ H', Same H H' → Q (.bl (fieldB sq f v)) H'
theorem ok_IsField {f : Addr} {fd : FuncData} {k : Nat} (F : Fun K "is_field" "is_field" sIsField f fd) (B : Bl mg) (gIsWord : Own P w K mg base k "is_word" ["thing"] (spIsWord K)) (gIsInteger : Own P w K mg base k "is_integer" ["thing"] (spIsInteger K)) : FnOk P w K mg base CX0 (k + 1) f fd ["field", "part"] (spIsField K) := by
  refine F.ok scIsField (fun vs H Q E h => ?_) (fun cdv A outer s H vs Q E hr h => ?_)
  · obtain ⟨f, v, sq, rfl, _⟩ := h
    rfl
  obtain ⟨f, v, sq, rfl, hv, q⟩ := h
  refine ⟨_, (pss_cons (ps_if (pt_cmpR op_eq (pv 0) pe_str (nomark _)) (pss_one (ps_ret (pe_own gIsWord (hr.mono (by omega)) (by rfl) (pa_cons (pv 1) pa_nil)))) pss_nil)
      (pss_cons (ps_if (pt_cmpR op_eq (pv 0) pe_str (nomark _)) (pss_one (ps_ret (pe_own gIsInteger (hr.mono (by omega)) (by rfl) (pa_cons (pv 1) pa_nil)))) pss_nil)
      (pss_one (ps_ret (pe_callB call_isiT (by rfl) B.isinstance (by decide +kernel) (pa_cons (pv 1) (pa_cons (pe_tup (pa_cons (pe_bltn (v := .ty "list") (by rfl) B.list (by decide +kernel) rfl) (pa_cons (pe_bltn (v := .ty "tuple") (by rfl) B.tuple (by decide +kernel) rfl) pa_nil))) pa_nil))))))), ?_⟩
  refine ⟨_, rfl, rfl, _, rfl, ite2 (fun c => ?_) (fun c => ?_)⟩
  · have e : f = "word" := V.str.inj (of_decide_eq_true c)
    refine ⟨_, rfl, v, rfl, hv.1, fun H' sm => ?_⟩
    have := q H' sm
    unfold fieldB at this
    rw [if_pos e] at this
    exact this
  · have e : ¬ f = "word" := fun h => c (by rw [h]; exact decide_eq_true rfl)
    refine ⟨_, rfl, rfl, _, rfl, ite2 (fun c2 => ?_) (fun c2 => ?_)⟩
    · have e2 : f = "number" := V.str.inj (of_decide_eq_true c2)
      refine ⟨_, rfl, v, rfl, hv.1, ?_⟩
      have := q H (Same.refl H)
      unfold fieldB at this
      rw [if_neg e, if_pos e2] at this
      exact this
    · have e2 : ¬ f = "number" := fun h => c2 (by rw [h]; exact decide_eq_true rfl)
      obtain ⟨h1, T, h2, h3⟩ := hv
      refine ⟨_, rfl, (by show 2 ≤ sizeLine; decide), fun t0 nt => ?_⟩
      have := q _ (Same.new (o := .tup [.ty "list", .ty "tuple"]) nt)
      unfold fieldB at this
      rw [if_neg e, if_neg e2] at this
      exact ⟨_, t0, _, _, _, _, rfl, upd_same, clsV_all ["list", "tuple"], TyX.same h2 (Same.new nt), kitAny_of h3, this⟩
abbrev sIsRow : Stmt := topS 19
theorem scIsRow : FnScope ["thing", "is_within", "fields", "field", "part"] ["thing", "is_within"] (defScope sIsRow) := ⟨rfl, rfl, rfl, by decide +kernel, rfl, by decide +kernel, by decide +kernel⟩
def spIsRow (K : PySem.W.Frag) : Sp := fun vs H Q _ => ∃ (v : V) (wi : Bool), vs = [v, .bl wi] ∧
  ((∃ T, TyX K H v (.type T) ∧ kitAnyB T ["list", "tuple"] = some false ∧ ∀ H', Same H H' → Q (.bl false) H') ∨
   ∃ (a : Addr) (kd : Bool) (xs : List V) (sq : V → Bool), v = .ref a ∧ H a = some (mkO kd xs) ∧ xs.length ≤ 1000 ∧ (∀ x ∈ xs, KnownS K H sq x) ∧ ∀ H', Same H H' → Q (.bl (rowB sq wi xs)) H')
theorem ok_IsRow {f dF : Addr} {fd : FuncData} {k : Nat} (F : Fun K "is_row" "is_row" sIsRow f fd) (B : Bl mg) (TF : FldT K w mg dF) (gIsField : Own P w K mg base k "is_field" ["field", "part"] (spIsField K)) : FnOk P w K mg base CX0 (k + 1) f fd ["thing", "is_within"] (spIsRow K) := by
  obtain ⟨es, nn, D⟩ := TF.dict
  refine F.ok scIsRow (fun vs H Q E h => ?_) (fun cdv A outer s H vs Q E hr h => ?_)
  · obtain ⟨v, wi, rfl, _⟩ := h
    rfl
  obtain ⟨v, wi, rfl, hv⟩ := h
  refine ⟨_, (pss_cons (ps_if (PW.pt (pw_or (pt_not (pt_val (pe_callB call_isiT (by rfl) B.isinstance (by decide +kernel) (pa_cons (pv 0) (pa_cons (pe_tup (pa_cons (pe_bltn (v := .ty "list") (by rfl) B.list (by decide +kernel) rfl) (pa_cons (pe_bltn (v := .ty "tuple") (by rfl) B.tuple (by decide +kernel) rfl) pa_nil))) pa_nil))))) (pw_or1 (pt_cmpR op_eq (pe_callB call_len_seq (by rfl) B.len (by decide +kernel) (pa_cons (pv 0) pa_nil)) pe_int (nomark _))))) (pss_one (ps_ret pe_bl)) pss_nil)
      (pss_cons (ps_if (pt_mid (PW.pt (pw_or (pt_not (pt_val (pe_callB call_isi (by rfl) B.isinstance (by decide +kernel) (pa_cons (pe_ix ix_seq (pv 0) pe_int (fun _ _ => rfl)) (pa_cons (pe_bltn (v := .ty "str") (by rfl) B.str (by decide +kernel) rfl) pa_nil))))) (pw_or (pt_cmpR (op_notIn_kd D) (pe_ix ix_seq (pv 0) pe_int (fun _ _ => rfl)) (pe_glob (v := .ref dF) (by rfl) TF.g rfl) (by rfl)) (pw_or1 (PW.pt (pw_and (pt_val (pv 1)) (pw_and1 (pt_cmpR op_in_seq (pe_ix ix_seq (pv 0) pe_int (fun _ _ => rfl)) (pe_tup (pa_cons pe_str (pa_cons pe_str pa_nil))) (by rfl)))))))))) (pss_one (ps_ret pe_bl)) pss_nil)
      (pss_cons (ps_set (i := 2) scIsRow.nd rfl (by first | exact Or.inl rfl | exact Or.inr rfl) (pe_ix ix_kdict (pe_glob (v := .ref dF) (by rfl) TF.g rfl) (pe_ix ix_seq (pv 0) pe_int (fun _ _ => rfl)) (fun _ _ => rfl)))
      (pss_one (ps_ret (pe_and (pe_cmpR op_eq (pe_callB call_len_seq (by rfl) B.len (by decide +kernel) (pa_cons (pv 0) pa_nil)) (pe_op op_add (pe_callB call_len_seq (by rfl) B.len (by decide +kernel) (pa_cons (pv 2) pa_nil)) pe_int) (nomark _)) (pe_one (pe_callB (cr_all rfl) (by rfl) B.all (by decide +kernel) (pa_cons (pe_lc (own := [("field", 3), ("part", 4)]) (g := (gTup _ 2 (gCons (gName 3) (gCons (gName 4) gNil)))) (tt := tYes) (by rfl) scIsRow.nd (pi_zipQ (by rfl) B.zip (pa_cons (pv 2) (pa_cons (pe_mid (pe_slice sl_seq (pv 0) (po_some pe_int) po_none)) pa_nil))) (blkOk_by (own := [("field", 3), ("part", 4)]) (N := ["thing", "is_within", "fields", "field", "part"]) (sc := defScope sIsRow) (by decide +kernel)) (fun _ _ _ _ _ => (pg_tup (by rfl) (pgs_cons (pg_name (i := 3) scIsRow.nd rfl (by first | exact Or.inl rfl | exact Or.inr rfl)) (pgs_cons (pg_name (i := 4) scIsRow.nd rfl (by first | exact Or.inl rfl | exact Or.inr rfl)) pgs_nil)))) (fun _ _ _ _ _ => pts_nil) (fun _ _ _ _ _ => (pe_own gIsField (hr.mono (by omega)) (by rfl) (pa_cons (pv 3) (pa_cons (pv 4) pa_nil))))) pa_nil))))))))), ?_⟩
  have lt : ∀ t0, H t0 = none → (upd H t0 (.tup [.ty "list", .ty "tuple"])) t0 = some (.tup ((["list", "tuple"] : List String).map V.ty)) := fun _ _ => upd_same
  refine ⟨_, rfl, (by show 2 ≤ sizeLine; decide), fun t0 nt => ?_⟩
  have s0 : Same H (upd H t0 (.tup [.ty "list", .ty "tuple"])) := Same.new nt
  rcases hv with ⟨T, h1, h2, q⟩ | ⟨a, kd, xs, sq, rfl, ha, hlen, hxs, q⟩
  · exact ⟨_, t0, _, _, _, _, rfl, upd_same, clsV_all ["list", "tuple"], TyX.same h1 s0, kitAny_of h2, false, rfl, iteT (q _ s0)⟩
  have ha0 := s0 _ _ ha
  refine ⟨_, t0, _, _, _, _, rfl, upd_same, clsV_all ["list", "tuple"], seq_ty ha0, kitAny_of (seq_lt kd), true, rfl, iteF ?_⟩
  refine ⟨_, rfl, a, xs, rfl, sqa_of (sq_of ha0), rfl, _, rfl, ?_⟩
  cases xs with
  | nil => exact iteT (q _ s0)
  | cons x0 rest =>
    have e0 : decide (V.int (((x0 :: rest : List V).length : Nat) : Int) = V.int 0) = false := decide_eq_false (fun e => by
      have := V.int.inj e
      simp at this
      omega)
    rw [e0]
    refine iteF ?_
    generalize hG : upd H t0 _ = G at *
    have hx0 : KnownS K G sq x0 := (hxs x0 (by simp)).same s0
    have ix : ∀ {Q' : VK}, Q' x0 G → rIx K (.ref a) (.int 0) G Q' := fun h => rIx_seq (sq_of ha0) (atI_nat (j := 0) rfl) h
    -- no word of a row at all
    have no : (∀ z, x0 ≠ .str z) → rowB sq wi (x0 :: rest) = false := fun h => by
      unfold rowB
      cases x0 with
      | str z => exact absurd rfl (h z)
      | _ => rfl
    have noQ : ∀ H', Same H H' → rowB sq wi (x0 :: rest) = false → Q (.bl false) H' := fun H' sm e => by
      have := q H' sm
      rw [e] at this
      exact this
    refine ⟨fun b H' => Same H H' ∧ (b = true → rowB sq wi (x0 :: rest) = false) ∧ (b = false → ∃ z fs, x0 = .str z ∧ fieldsOf z = some fs ∧ (wi && (decide (z = "make") || decide (z = "call"))) = false), ?_, ?_⟩
    · rcases hx0.1 with ⟨z, rfl, hz⟩ | rfl | ⟨b, rfl⟩ | ⟨i, rfl⟩ | ⟨a', T, rfl, ht, hm⟩
      rotate_left
      · exact ⟨_, rfl, ix ⟨_, _, _, _, _, rfl, .ty _, .base .non, kit_ty (r := false) (by decide +kernel), false, rfl, iteT ⟨s0, fun _ => no fun z e => (nomatch e), fun e => (nomatch e)⟩⟩⟩
      · exact ⟨_, rfl, ix ⟨_, _, _, _, _, rfl, .ty _, .base (.bl b), kit_ty (r := false) (by decide +kernel), false, rfl, iteT ⟨s0, fun _ => no fun z e => (nomatch e), fun e => (nomatch e)⟩⟩⟩
      · exact ⟨_, rfl, ix ⟨_, _, _, _, _, rfl, .ty _, .base (.int i), kit_ty (r := false) (by decide +kernel), false, rfl, iteT ⟨s0, fun _ => no fun z e => (nomatch e), fun e => (nomatch e)⟩⟩⟩
      · have hk : kitB T "str" = some false := by
          have : ∀ T ∈ ["list", "tuple", "dict"], kitB T "str" = some false := by decide +kernel
          exact this T hm
        exact ⟨_, rfl, ix ⟨_, _, _, _, _, rfl, .ty _, ht, kit_ty hk, false, rfl, iteT ⟨s0, fun _ => no fun z e => (nomatch e), fun e => (nomatch e)⟩⟩⟩
      refine ⟨_, rfl, ix ⟨_, _, _, _, _, rfl, .ty _, .base (.str z), kit_ty (r := true) (by decide +kernel), true, rfl, iteF ?_⟩⟩
      -- thing[0] not in FIELDS
      cases hf : fieldsOf z with
      | none =>
        have e : rowB sq wi (.str z :: rest) = false := by
          rw [rowB_str, hf]
        exact ⟨_, rfl, ix ⟨z, none, rfl, rfl, TF.no z (fieldsOf_none hf), true, rfl, iteT ⟨s0, fun _ => e, fun e => (nomatch e)⟩⟩⟩
      | some fs =>
        have hfs := fieldsOf_some hf
        obtain ⟨tA, hn, htA⟩ := TF.val _ hfs
        refine ⟨_, rfl, ix ⟨z, some (.ref tA), rfl, rfl, hn, false, rfl, iteF ?_⟩⟩
        cases wi with
        | false => exact ⟨_, rfl, false, rfl, iteF ⟨s0, fun e => (nomatch e), fun _ => ⟨z, fs, rfl, hf, rfl⟩⟩⟩
        | true =>
          refine ⟨_, rfl, true, rfl, iteT ⟨_, rfl, ix ⟨(by show 2 ≤ sizeLine; decide), fun t1 nt1 => ?_⟩⟩⟩
          have mc : inV (.str z) [.str "make", .str "call"] = (decide (z = "make") || decide (z = "call")) := by
            show (eqV (.str "make") (.str z) || (eqV (.str "call") (.str z) || false)) = _
            rw [Bool.or_false]
            have h1 : ∀ a b : Str, eqV (.str a) (.str b) = decide (b = a) := fun a b => by
              show (a == b) = _
              by_cases e : b = a
              · rw [e]; simp
              · have e' : ¬ a = b := fun h => e h.symm
                simp [e, e']
            rw [h1, h1]
          refine ⟨t1, _, rfl, .inr (SqT.of upd_same), rfl, rfl, _, rfl, Same.trans s0 (Same.new nt1), fun e => ?_, fun e => ⟨z, fs, rfl, hf, ?_⟩⟩
          · have e' : (decide (z = "make") || decide (z = "call")) = true := by rw [← mc]; exact e
            rw [rowB_str, hf]
            show (!(true && (decide (z = "make") || decide (z = "call"))) && _) = false
            rw [e']
            rfl
          · rw [Bool.true_and, ← mc]
            exact e
    rintro b G2 ⟨sm, hT, hF⟩
    cases b with
    | true => exact iteT (noQ _ sm (hT rfl))
    | false =>
      refine iteF ?_
      obtain ⟨z, fs, rfl, hf, hno⟩ := hF rfl
      have hfs := fieldsOf_some hf
      obtain ⟨tA, hn, htA⟩ := TF.val _ hfs
      have er : rowB sq wi (.str z :: rest) = (decide (rest.length = fs.length) && ((fs.zip rest).all fun p => fieldB sq p.1 p.2)) := by
        rw [rowB_str, hf]
        show (!(wi && (decide (z = "make") || decide (z = "call"))) && _) = _
        rw [hno]
        rfl
      have ha2 : G2 a = some (mkO kd (.str z :: rest)) := sm _ _ ha
      have ix2 : ∀ {Q' : VK}, Q' (.str z) G2 → rIx K (.ref a) (.int 0) G2 Q' := fun h => rIx_seq (sq_of ha2) (atI_nat (j := 0) rfl) h
      refine ⟨_, rfl, ix2 ⟨dF, z, .ref tA, rfl, rfl, ⟨es, nn, .ref tA, D.at_, D.lit, hn, rfl⟩, ?_⟩⟩
      have l3 := fields_len hfs
      -- the length
      refine ⟨_, rfl, a, _, rfl, sqa_of (sq_of ha2), _, rfl, tA, _, rfl, .inr (htA G2), _, 1, rfl, rfl, rfl, _, rfl, ?_⟩
      have el : decide (V.int ((((.str z :: rest : List V)).length : Nat) : Int) = V.int ((((fs.map V.str).length : Nat) : Int) + 1)) = decide (rest.length = fs.length) := decide_eq_decide.mpr (by
        rw [List.length_map, List.length_cons]
        constructor
        · intro e
          have := V.int.inj e
          omega
        · intro e
          rw [e]
          rfl)
      refine ite2 (fun c => ?_) (fun c => ?_)
      · have c' : rest.length = fs.length := of_decide_eq_true (el.symm.trans c)
        -- all of the fields
        have cutq : cutV (.str z :: rest) (some 1) none = rest := by
          unfold cutV
          rw [show HT.sIx (V.str z :: rest).length 0 (some 1) = min 1 (V.str z :: rest).length from HT.sIx_nat _ 0 1, HT.sIx_none]
          rw [show min 1 (V.str z :: rest).length = 1 by rw [List.length_cons]; omega]
          show List.take (rest.length + 1 - 1) rest = rest
          rw [Nat.add_sub_cancel, List.take_length]
        refine ⟨_, rfl, ⟨fun v H' => ∃ p kd2, v = .ref p ∧ H' p = some (mkO kd2 rest) ∧ Same G2 H', ?_, ?_⟩⟩
        · have whole : ¬ (HT.sIx (V.str z :: rest).length 0 (some 1) = 0 ∧ HT.sIx (V.str z :: rest).length (V.str z :: rest).length none = (V.str z :: rest).length) := fun ⟨e, _⟩ => by
            rw [show HT.sIx (V.str z :: rest).length 0 (some 1) = min 1 (V.str z :: rest).length from HT.sIx_nat _ 0 1, List.length_cons] at e
            omega
          cases kd with
          | true => exact ⟨_, rfl, 1, rfl, .inl ⟨a, _, rfl, SqL.of ha2, fun p np => ⟨p, true, rfl, by rw [upd_same, cutq]; rfl, Same.new np⟩⟩⟩
          | false => exact ⟨_, rfl, 1, rfl, .inr ⟨a, _, rfl, SqT.of ha2, whole, fun p np => ⟨p, false, rfl, by rw [upd_same, cutq]; rfl, Same.new np⟩⟩⟩
        rintro v G3 ⟨p, kd2, rfl, hp3, sm3⟩
        refine ⟨tA, p, false, kd2, fs.map V.str, rest, rfl, htA G3, sq_of hp3, fun L nL => ?_⟩
        have lm : (fs.map V.str).length = fs.length := List.length_map _
        refine lc_it (walk_zipQ (n := fs.length) (by rw [lm]; omega)) (fun i H' => Same G3 H' ∧ H' L = some (.lst ((((fs.zip rest).take i).map fun p => fieldB sq p.1 p.2).map V.bl)))
          ⟨Same.new nL, upd_same⟩ (fun i H' _ ⟨s4, _⟩ => ⟨htA H', sq_of (s4 _ _ hp3)⟩) ?_ ?_
        · rintro i x H1 H2 hi ⟨s4, hL⟩ ⟨T, x1, x2, rfl, nT, rfl, e1, e2⟩
          obtain ⟨ff, hff, rfl⟩ : ∃ ff, fs[i]? = some ff ∧ x1 = .str ff := by
            have e1' : (fs.map V.str)[i]? = some x1 := e1
            rw [List.getElem?_map] at e1'
            obtain ⟨ff, h1, h2⟩ := Option.map_eq_some_iff.mp e1'
            exact ⟨ff, h1, h2.symm⟩
          have s5 : Same G3 (upd H1 T (.tup [.str ff, x2])) := Same.trans s4 (Same.new nT)
          have kn : KnownS K (upd H1 T (.tup [.str ff, x2])) sq x2 := (hxs x2 (List.mem_cons_of_mem _ (List.mem_of_getElem? e2))).same (Same.trans sm (Same.trans sm3 s5))
          refine ⟨T, _, rfl, SqT.of upd_same, rfl, _, _, rfl, _, _, rfl, rfl, rfl, ?_⟩
          refine ⟨_, rfl, _, rfl, ff, x2, sq, rfl, kn, fun H3 s6 => ?_⟩
          have nLT : L ≠ T := ne_of_none hL nT
          have hL3 : H3 L = some (.lst ((((fs.zip rest).take i).map fun p => fieldB sq p.1 p.2).map V.bl)) := s6 _ _ (by rw [upd_ne nLT]; exact hL)
          refine ⟨_, hL3, ?_, Same.upN (Same.trans s5 s6) nL, ?_⟩
          · rw [List.length_map, List.length_map, List.length_take]
            exact small (by omega)
          · have ez : (fs.zip rest)[i]? = some (ff, x2) := List.getElem?_zip_eq_some.mpr ⟨hff, e2⟩
            rw [upd_same, List.take_add_one, ez, List.map_append, List.map_append]
            rfl
        · rintro H1 ⟨s4, hL⟩
          have e : (fs.zip rest).take fs.length = fs.zip rest := List.take_of_length_le (by rw [List.length_zip]; omega)
          rw [e] at hL
          refine ⟨L, _, rfl, SqL.of hL, ?_⟩
          have e2 : (((fs.zip rest).map fun p => fieldB sq p.1 p.2).all id) = rowB sq wi (.str z :: rest) := by
            rw [er, decide_eq_true c', Bool.true_and, List.all_map]
            rfl
          rw [e2]
          exact q _ (Same.trans sm (Same.trans sm3 s4))
      · have c' : ¬ rest.length = fs.length := fun e => c (el.trans (decide_eq_true e))
        have e : rowB sq wi (.str z :: rest) = false := by rw [er, decide_eq_false c']; rfl
        exact noQ _ sm e
end
end Ft
set_option Elab.async false
set_option linter.all false
set_option maxRecDepth 100000
set_option maxHeartbeats 4000000
namespace Ft
open PySem L2
inductive Row where
  | plain (w : Str) (fs : List V)
  | make (n : Str) (b : List Row)
  | when (n : Str) (b c : List Row)
  | try_ (b c : List Row)
/-- what stands behind the word of a row without blocks: true: a word, false: a number -/
def plainT : List (Str × List Bool) := [("load", [true, true]), ("pick", [true, true, true]), ("put", [true, false]), ("copy", [true, true]), ("part", [true, true, true]), ("drop", [true]), ("say", [false]), ("tell", [true]), ("seen", [true, true]), ("fail", [false]), ("call", [true])]
def fldOk : Bool → V → Bool
  | true, .str z => isW z
  | false, .int i => decide (-999 ≤ i) && decide (i ≤ 999)
  | _, _ => false
def plainOk (wi : Bool) (w : Str) (fs : List V) : Prop := ∃ ks, (w, ks) ∈ plainT ∧ Paired (fun k v => fldOk k v = true) ks fs ∧ (wi = true → w ≠ "call")
def RowOk : Nat → Bool → Row → Prop
  | _, wi, .plain w fs => plainOk wi w fs
  | d + 1, wi, .make n b => wi = false ∧ isW n = true ∧ b.length ≤ 11 ∧ ∀ r ∈ b, RowOk d true r
  | d + 1, wi, .when n b c => isW n = true ∧ b.length ≤ 11 ∧ c.length ≤ 11 ∧ (∀ r ∈ b, RowOk d wi r) ∧ ∀ r ∈ c, RowOk d wi r
  | d + 1, wi, .try_ b c => b.length ≤ 11 ∧ c.length ≤ 11 ∧ (∀ r ∈ b, RowOk d wi r) ∧ ∀ r ∈ c, RowOk d wi r
  | 0, _, _ => False
/-- a sequence of kinds kk at an ok place -/
def At (ok : Addr → Prop) (kk : Bool → Prop) (H : Hp) (v : V) (xs : List V) : Prop := ∃ a kd, v = .ref a ∧ ok a ∧ kk kd ∧ H a = some (mkO kd xs)
def RowAt (ok : Addr → Prop) (kk : Bool → Bool → Prop) (H : Hp) : Nat → V → Row → Prop
  | _, v, .plain w fs => At ok (kk false) H v (.str w :: fs)
  | d + 1, v, .make n b => ∃ vb xs, At ok (kk false) H v [.str "make", .str n, vb] ∧ At ok (kk true) H vb xs ∧ Paired (RowAt ok kk H d) xs b
  | d + 1, v, .when n b c => ∃ vb xs vc ys, At ok (kk false) H v [.str "when", .str n, vb, vc] ∧ At ok (kk true) H vb xs ∧ Paired (RowAt ok kk H d) xs b ∧ At ok (kk true) H vc ys ∧ Paired (RowAt ok kk H d) ys c
  | d + 1, v, .try_ b c => ∃ vb xs vc ys, At ok (kk false) H v [.str "try", vb, vc] ∧ At ok (kk true) H vb xs ∧ Paired (RowAt ok kk H d) xs b ∧ At ok (kk true) H vc ys ∧ Paired (RowAt ok kk H d) ys c
  | 0, _, _ => False
/-- rows of a block or module -/
def RowsAt (ok : Addr → Prop) (kk : Bool → Bool → Prop) (H : Hp) (d : Nat) (v : V) (rs : List Row) : Prop := ∃ xs, At ok (kk true) H v xs ∧ Paired (RowAt ok kk H d) xs rs
/-- what may be read at ok places is kept, and the places are ok' -/
def Keep (ok ok' : Addr → Prop) (H H' : Hp) : Prop := ∀ x kd xs, ok x → H x = some (mkO kd xs) → ok' x ∧ H' x = some (mkO kd xs)
theorem Keep.trans {o1 o2 o3 : Addr → Prop} {H1 H2 H3 : Hp} (a : Keep o1 o2 H1 H2) (b : Keep o2 o3 H2 H3) : Keep o1 o3 H1 H3 := fun x kd xs k h => by
  obtain ⟨k2, h2⟩ := a x kd xs k h
  exact b x kd xs k2 h2
theorem Keep.fr {ok ok' : Addr → Prop} {H H' : Hp} (f : Fr ok H H') (h : ∀ x, ok x → ok' x) : Keep ok ok' H H' := fun x kd xs k e => ⟨h x k, f _ _ k e⟩
theorem Keep.mono {o1 o2 : Addr → Prop} {H : Hp} (h : ∀ x, o1 x → H x ≠ none → o2 x) : Keep o1 o2 H H := fun x kd xs k e => ⟨h x k (by rw [e]; exact fun z => nomatch z), e⟩
theorem At.to {ok ok' : Addr → Prop} {kk : Bool → Prop} {H H' : Hp} {v : V} {xs : List V} (h : At ok kk H v xs) (t : Keep ok ok' H H') : At ok' kk H' v xs := by
  obtain ⟨a, kd, e, k, q, m⟩ := h
  obtain ⟨k', m'⟩ := t a kd xs k m
  exact ⟨a, kd, e, k', q, m'⟩
theorem At.kinds {ok : Addr → Prop} {kk kk' : Bool → Prop} {H : Hp} {v : V} {xs : List V} (h : At ok kk H v xs) (t : ∀ b, kk b → kk' b) : At ok kk' H v xs := by
  obtain ⟨a, kd, e, k, q, m⟩ := h
  exact ⟨a, kd, e, k, t _ q, m⟩
theorem paired_imp {α β : Type} {R S : α → β → Prop} : ∀ {xs : List α} {ys : List β}, Paired R xs ys → (∀ x y, R x y → S x y) → Paired S xs ys
  | _, _, .nil, _ => .nil
  | _, _, .cons r t, f => .cons (f _ _ r) (paired_imp t f)
theorem RowAt.gen {ok ok' : Addr → Prop} {kk kk' : Bool → Bool → Prop} {H H' : Hp} (t : Keep ok ok' H H') (tk : ∀ s b, kk s b → kk' s b) : ∀ (d : Nat) (v : V) (r : Row), RowAt ok kk H d v r → RowAt ok' kk' H' d v r := by
  have g : ∀ {s v xs}, At ok (kk s) H v xs → At ok' (kk' s) H' v xs := fun h => (h.to t).kinds (tk _)
  intro d
  induction d with
  | zero =>
    intro v r h
    cases r with
    | plain w fs => exact g h
    | _ => exact h.elim
  | succ d ih =>
    intro v r h
    cases r with
    | plain w fs => exact g h
    | make n b =>
      obtain ⟨vb, xs, h1, h2, h3⟩ := h
      exact ⟨vb, xs, g h1, g h2, paired_imp h3 ih⟩
    | when n b c =>
      obtain ⟨vb, xs, vc, ys, h1, h2, h3, h4, h5⟩ := h
      exact ⟨vb, xs, vc, ys, g h1, g h2, paired_imp h3 ih, g h4, paired_imp h5 ih⟩
    | try_ b c =>
      obtain ⟨vb, xs, vc, ys, h1, h2, h3, h4, h5⟩ := h
      exact ⟨vb, xs, vc, ys, g h1, g h2, paired_imp h3 ih, g h4, paired_imp h5 ih⟩
theorem RowAt.to {ok ok' : Addr → Prop} {kk : Bool → Bool → Prop} {H H' : Hp} {d : Nat} {v : V} {r : Row} (h : RowAt ok kk H d v r) (t : Keep ok ok' H H') : RowAt ok' kk H' d v r := RowAt.gen t (fun _ _ h => h) d v r h
theorem RowsAt.to {ok ok' : Addr → Prop} {kk : Bool → Bool → Prop} {H H' : Hp} {d : Nat} {v : V} {rs : List Row} (h : RowsAt ok kk H d v rs) (t : Keep ok ok' H H') : RowsAt ok' kk H' d v rs := by
  obtain ⟨xs, h1, h2⟩ := h
  exact ⟨xs, h1.to t, paired_imp h2 fun v r q => q.to t⟩
theorem rowOk_mono : ∀ (d : Nat) (wi : Bool) (r : Row), RowOk d wi r → RowOk (d + 1) wi r := by
  intro d
  induction d with
  | zero =>
    intro wi r h
    cases r with
    | plain w fs => exact h
    | _ => exact h.elim
  | succ d ih =>
    intro wi r h
    cases r with
    | plain w fs => exact h
    | make n b => exact ⟨h.1, h.2.1, h.2.2.1, fun r hr => ih _ _ (h.2.2.2 r hr)⟩
    | when n b c => exact ⟨h.1, h.2.1, h.2.2.1, fun r hr => ih _ _ (h.2.2.2.1 r hr), fun r hr => ih _ _ (h.2.2.2.2 r hr)⟩
    | try_ b c => exact ⟨h.1, h.2.1, fun r hr => ih _ _ (h.2.2.1 r hr), fun r hr => ih _ _ (h.2.2.2 r hr)⟩
theorem rowAt_mono {ok : Addr → Prop} {kk : Bool → Bool → Prop} {H : Hp} : ∀ (d : Nat) (v : V) (r : Row), RowAt ok kk H d v r → RowAt ok kk H (d + 1) v r := by
  intro d
  induction d with
  | zero =>
    intro v r h
    cases r with
    | plain w fs => exact h
    | _ => exact h.elim
  | succ d ih =>
    intro v r h
    cases r with
    | plain w fs => exact h
    | make n b =>
      obtain ⟨vb, xs, h1, h2, h3⟩ := h
      exact ⟨vb, xs, h1, h2, paired_imp h3 ih⟩
    | when n b c =>
      obtain ⟨vb, xs, vc, ys, h1, h2, h3, h4, h5⟩ := h
      exact ⟨vb, xs, vc, ys, h1, h2, paired_imp h3 ih, h4, paired_imp h5 ih⟩
    | try_ b c =>
      obtain ⟨vb, xs, vc, ys, h1, h2, h3, h4, h5⟩ := h
      exact ⟨vb, xs, vc, ys, h1, h2, paired_imp h3 ih, h4, paired_imp h5 ih⟩
theorem paired_len {α β : Type} {R : α → β → Prop} : ∀ {xs : List α} {ys : List β}, Paired R xs ys → xs.length = ys.length
  | _, _, .nil => rfl
  | _, _, .cons _ t => congrArg Nat.succ (paired_len t)
theorem paired_app {α β : Type} {R : α → β → Prop} {x : α} {y : β} (r : R x y) : ∀ {xs : List α} {ys : List β}, Paired R xs ys → Paired R (xs ++ [x]) (ys ++ [y])
  | _, _, .nil => .cons r .nil
  | _, _, .cons q t => .cons q (paired_app r t)
theorem paired_get {α β : Type} {R : α → β → Prop} : ∀ {xs : List α} {ys : List β} {i : Nat} {x : α}, Paired R xs ys → xs[i]? = some x → ∃ y, ys[i]? = some y ∧ R x y
  | _, _, i, x, .nil, e => by simp at e
  | _, _, 0, x, .cons r _, e => by
    have z := Option.some.inj e
    subst z
    exact ⟨_, rfl, r⟩
  | _, _, i + 1, x, .cons _ t, e => paired_get (i := i) t e
theorem paired_getR {α β : Type} {R : α → β → Prop} : ∀ {xs : List α} {ys : List β} {i : Nat} {y : β}, Paired R xs ys → ys[i]? = some y → ∃ x, xs[i]? = some x ∧ R x y
  | _, _, i, x, .nil, e => by simp at e
  | _, _, 0, x, .cons r _, e => by
    have z := Option.some.inj e
    subst z
    exact ⟨_, rfl, r⟩
  | _, _, i + 1, x, .cons _ t, e => paired_getR (i := i) t e
end Ft
set_option Elab.async false
set_option linter.all false
set_option maxRecDepth 100000
set_option maxHeartbeats 4000000
namespace Ft
open PySem L2
abbrev Lib := List (Str × List Row)
def LibAt (ok : Addr → Prop) (kk : Bool → Bool → Prop) (H : Hp) (kvs : List (Key × V)) (lib : Lib) : Prop := Paired (fun (kv : Key × V) (m : Str × List Row) => kv.1 = Sum.inr m.1 ∧ RowsAt ok kk H 3 kv.2 m.2) kvs lib
theorem LibAt.to {ok ok' : Addr → Prop} {kk : Bool → Bool → Prop} {H H' : Hp} {kvs : List (Key × V)} {lib : Lib} (h : LibAt ok kk H kvs lib) (t : Keep ok ok' H H') : LibAt ok' kk H' kvs lib := paired_imp h fun _ _ q => ⟨q.1, q.2.to t⟩
structure LibOk (lib : Lib) : Prop where
  few : lib.length ≤ 4
  nd : (lib.map (·.1)).Nodup
  word : ∀ m ∈ lib, isW m.1 = true
  len : ∀ m ∈ lib, m.2.length ≤ 24
  rows : ∀ m ∈ lib, ∀ r ∈ m.2, RowOk 3 false r
  tot : (lib.map fun m => m.2.length).sum ≤ 32
theorem rows_le : ∀ {lib : Lib}, (∀ m ∈ lib, m.2.length ≤ 8) → (lib.map fun m => m.2.length).sum ≤ 8 * lib.length
  | [], _ => by simp
  | m :: lib, h => by
    have h1 := h m (by simp)
    have h2 := rows_le (lib := lib) fun x hx => h x (by simp [hx])
    rw [List.map_cons, List.sum_cons, List.length_cons]
    omega
theorem rows_tot {lib : Lib} (hl : lib.length ≤ 4) (h : ∀ m ∈ lib, m.2.length ≤ 8) : (lib.map fun m => m.2.length).sum ≤ 32 := by
  have := rows_le h
  omega
def putL (lib : Lib) (z : Str) (rs : List Row) : Lib := if (lib.any fun m => decide (m.1 = z)) = true then lib.map (fun m => if m.1 = z then (m.1, rs) else m) else lib ++ [(z, rs)]
theorem putL_any {ok : Addr → Prop} {kk : Bool → Bool → Prop} {H : Hp} {z : Str} : ∀ {kvs : List (Key × V)} {lib : Lib}, LibAt ok kk H kvs lib → (kvs.any fun kv => decide (kv.1 = Sum.inr z)) = (lib.any fun m => decide (m.1 = z))
  | _, _, .nil => rfl
  | _, _, .cons (a := kv) (b := m) r t => by
    rw [List.any_cons, List.any_cons, putL_any t, r.1]
    congr 1
    by_cases e : m.1 = z
    · rw [e]; simp
    · have : ¬ (Sum.inr m.1 : Key) = Sum.inr z := fun h => e (Sum.inr.inj h)
      rw [decide_eq_false e, decide_eq_false this]
theorem libAt_put {ok : Addr → Prop} {kk : Bool → Bool → Prop} {H : Hp} {kvs : List (Key × V)} {lib : Lib} {z : Str} {v : V} {rs : List Row} (h : LibAt ok kk H kvs lib) (hv : RowsAt ok kk H 3 v rs) : LibAt ok kk H (putK kvs (Sum.inr z) v) (putL lib z rs) := by
  unfold putK putL
  rw [putL_any (z := z) h]
  split
  · have go : ∀ {kvs : List (Key × V)} {lib : Lib}, LibAt ok kk H kvs lib → LibAt ok kk H (kvs.map (fun kv => if kv.1 = Sum.inr z then (kv.1, v) else kv)) (lib.map (fun m => if m.1 = z then (m.1, rs) else m)) := by
      intro kvs lib h
      induction h with
      | nil => exact .nil
      | cons r t ih =>
        refine .cons ?_ ih
        rename_i kv m _ _
        dsimp only
        by_cases e : m.1 = z
        · have e2 : kv.1 = Sum.inr z := by rw [r.1, e]
          rw [if_pos e, if_pos e2]
          exact ⟨r.1, hv⟩
        · have e2 : ¬ kv.1 = Sum.inr z := by rw [r.1]; exact fun q => e (Sum.inr.inj q)
          rw [if_neg e, if_neg e2]
          exact r
    exact go h
  · exact paired_app ⟨rfl, hv⟩ h
theorem libAt_len {ok : Addr → Prop} {kk : Bool → Bool → Prop} {H : Hp} {kvs : List (Key × V)} {lib : Lib} (h : LibAt ok kk H kvs lib) : kvs.length = lib.length := paired_len h
theorem libAt_keys {ok : Addr → Prop} {kk : Bool → Bool → Prop} {H : Hp} {kvs : List (Key × V)} {lib : Lib} (h : LibAt ok kk H kvs lib) : kvs.map (·.1) = (lib.map (·.1)).map Sum.inr := by
  induction h with
  | nil => rfl
  | cons r t ih => rw [List.map_cons, List.map_cons, List.map_cons, ih, r.1]
/-- what a module of the library has -/
theorem libAt_val {ok : Addr → Prop} {kk : Bool → Bool → Prop} {H : Hp} {kvs : List (Key × V)} {lib : Lib} (h : LibAt ok kk H kvs lib) {z : Str} {rs : List Row} (hn : (lib.map (·.1)).Nodup) (hm : (z, rs) ∈ lib) : ∃ v, valV kvs (Sum.inr z) = some v ∧ RowsAt ok kk H 3 v rs := by
  induction h with
  | nil => cases hm
  | cons r t ih =>
    rename_i kv m kvs' lib'
    rw [List.map_cons, List.nodup_cons] at hn
    rcases List.mem_cons.mp hm with e | hm
    · subst e
      refine ⟨kv.2, ?_, r.2⟩
      unfold valV
      rw [List.find?_cons_of_pos (by rw [r.1]; exact decide_eq_true rfl)]
      rfl
    · obtain ⟨v, hv, hr⟩ := ih hn.2 hm
      refine ⟨v, ?_, hr⟩
      have : ¬ kv.1 = Sum.inr z := fun e => by
        rw [r.1] at e
        have e' := Sum.inr.inj e
        exact hn.1 (by rw [e']; exact List.mem_map.mpr ⟨_, hm, rfl⟩)
      unfold valV at hv ⊢
      rw [List.find?_cons_of_neg (by rw [decide_eq_false this]; exact Bool.false_ne_true)]
      exact hv
end Ft
set_option Elab.async false
set_option linter.all false
set_option maxRecDepth 100000
set_option maxHeartbeats 4000000
namespace Ft
open PySem L2
def anyE : Bool → Prop := fun _ => True
theorem At.any {ok : Addr → Prop} {kk : Bool → Prop} {H : Hp} {v : V} {xs : List V} (h : At ok kk H v xs) : At ok anyE H v xs := h.kinds fun _ _ => trivial
inductive E where
  | at (v : V)
  | sq (es : List E)
/-- how many things a tree of a level has at most: a module's rows 24, all else 8 -/
def bE (m : Nat) : Nat := if m ≤ 6 then 11 else 24
def EAt (ok : Addr → Prop) (kk : Bool → Prop) (H : Hp) : Nat → V → E → Prop
  | _, v, .at x => v = x ∧ isAtom x = true
  | m + 1, v, .sq es => ∃ xs, At ok kk H v xs ∧ es.length ≤ bE m ∧ Paired (EAt ok kk H m) xs es
  | 0, _, .sq _ => False
theorem EAt.gen {ok ok' : Addr → Prop} {kk kk' : Bool → Prop} {H H' : Hp} (t : Keep ok ok' H H') (tk : ∀ b, kk b → kk' b) : ∀ (m : Nat) (v : V) (e : E), EAt ok kk H m v e → EAt ok' kk' H' m v e := by
  intro m
  induction m with
  | zero =>
    intro v e h
    cases e with
    | «at» x => exact h
    | sq es => exact h.elim
  | succ m ih =>
    intro v e h
    cases e with
    | «at» x => exact h
    | sq es =>
      obtain ⟨xs, h1, h2, h3⟩ := h
      exact ⟨xs, (h1.to t).kinds tk, h2, paired_imp h3 ih⟩
theorem EAt.to {ok ok' : Addr → Prop} {kk : Bool → Prop} {H H' : Hp} {m : Nat} {v : V} {e : E} (h : EAt ok kk H m v e) (t : Keep ok ok' H H') : EAt ok' kk H' m v e := EAt.gen t (fun _ h => h) m v e h
theorem fld_atom {k : Bool} {v : V} (h : fldOk k v = true) : isAtom v = true := by
  cases k <;> cases v <;> first | rfl | cases h
theorem plain_len {w : Str} {ks : List Bool} (h : (w, ks) ∈ plainT) : ks.length ≤ 3 := by
  have : ∀ p ∈ plainT, p.2.length ≤ 3 := by decide +kernel
  exact this _ h
theorem plain_atoms {wi : Bool} {w : Str} {fs : List V} (h : plainOk wi w fs) : (∀ v ∈ fs, isAtom v = true) ∧ fs.length ≤ 3 := by
  obtain ⟨ks, hk, hp, _⟩ := h
  refine ⟨fun v hv => ?_, by rw [← paired_len hp]; exact plain_len hk⟩
  obtain ⟨i, hi, e⟩ := List.mem_iff_getElem.mp hv
  obtain ⟨k, _, r⟩ := paired_getR hp (i := i) (y := v) (by rw [List.getElem?_eq_getElem hi, e])
  exact fld_atom r
end Ft
set_option Elab.async false
set_option linter.all false
set_option maxRecDepth 100000
set_option maxHeartbeats 4000000
namespace Ft
open PySem L2
def rowWord : Row → Str
  | .plain w _ => w
  | .make _ _ => "make"
  | .when _ _ _ => "when"
  | .try_ _ _ => "try"
def blocks : Row → List (List Row)
  | .plain _ _ => []
  | .make _ b => [b]
  | .when _ b c => [b, c]
  | .try_ b c => [b, c]
inductive Fl where
  | at (v : V)
  | blk (b : List Row)
def flds : Row → List (Str × Fl)
  | .plain w fs => ((fieldsOf w).getD []).zip (fs.map Fl.at)
  | .make n b => [("word", .at (.str n)), ("block", .blk b)]
  | .when n b c => [("word", .at (.str n)), ("block", .blk b), ("block", .blk c)]
  | .try_ b c => [("block", .blk b), ("block", .blk c)]
def FlAt (ok : Addr → Prop) (kk : Bool → Bool → Prop) (H : Hp) (d : Nat) (v : V) : Fl → Prop
  | .at x => v = x
  | .blk b => ∃ e, d = e + 1 ∧ RowsAt ok kk H e v b
def FlOk (d : Nat) (wi : Bool) (name : Str) : Fl → Prop
  | .at x => (name = "word" ∧ wordV x = true) ∨ (name = "number" ∧ ∃ i, x = .int i ∧ -999 ≤ i ∧ i ≤ 999)
  | .blk b => name = "block" ∧ ∃ e, d = e + 1 ∧ b.length ≤ 11 ∧ ∀ r ∈ b, RowOk e wi r
theorem plainT_fields : ∀ p ∈ plainT, fieldsOf p.1 = some (p.2.map fun b => if b then ("word" : Str) else "number") := by decide +kernel
theorem plainT_make : ∀ p ∈ plainT, p.1 ≠ "make" := by decide +kernel
theorem fld_plain {k : Bool} {v : V} (h : fldOk k v = true) (d : Nat) (wi : Bool) : FlOk d wi (if k then "word" else "number") (.at v) := by
  cases k with
  | true =>
    cases v with
    | str z => exact .inl ⟨rfl, h⟩
    | _ => cases h
  | false =>
    cases v with
    | int i =>
      unfold fldOk at h
      rw [Bool.and_eq_true] at h
      exact .inr ⟨rfl, i, rfl, of_decide_eq_true h.1, of_decide_eq_true h.2⟩
    | _ => cases h
theorem flds_plain {wi : Bool} {w : Str} {fs : List V} (h : plainOk wi w fs) (d : Nat) (wi' : Bool) : ∃ names, fieldsOf w = some names ∧ names.length = fs.length ∧ (names.zip (fs.map Fl.at)).map (·.1) = names ∧ ∀ f ∈ names.zip (fs.map Fl.at), FlOk d wi' f.1 f.2 := by
  obtain ⟨ks, hk, hp, _⟩ := h
  have e := plainT_fields _ hk
  have hl := paired_len hp
  have go : ∀ {ks : List Bool} {fs : List V}, Paired (fun k v => fldOk k v = true) ks fs → ((ks.map fun b => if b then ("word" : Str) else "number").zip (fs.map Fl.at)).map (·.1) = (ks.map fun b => if b then ("word" : Str) else "number") ∧ ∀ f ∈ (ks.map fun b => if b then ("word" : Str) else "number").zip (fs.map Fl.at), FlOk d wi' f.1 f.2 := by
    intro ks fs h
    induction h with
    | nil => exact ⟨rfl, fun f hf => by cases hf⟩
    | cons r t ih =>
      refine ⟨by rw [List.map_cons, List.map_cons, List.zip_cons_cons, List.map_cons, ih.1], fun f hf => ?_⟩
      rw [List.map_cons, List.map_cons, List.zip_cons_cons] at hf
      rcases List.mem_cons.mp hf with e | hf
      · rw [e]; exact fld_plain r d wi'
      · exact ih.2 f hf
  exact ⟨_, e, by rw [List.length_map]; exact hl, (go hp).1, (go hp).2⟩
structure RowF (d : Nat) (wi : Bool) (r : Row) : Prop where
  names : fieldsOf (rowWord r) = some ((flds r).map (·.1))
  ok : ∀ f ∈ flds r, FlOk d (wi || decide (rowWord r = "make")) f.1 f.2
  few : (flds r).length ≤ 3
  one : 1 ≤ (flds r).length
  word : (wi && (decide (rowWord r = "make") || decide (rowWord r = "call"))) = false
  blk : blocks r = (flds r).filterMap fun f => match f.2 with
    | .blk b => some b
    | .at _ => none
theorem rowF_of {wi : Bool} {r : Row} : ∀ {d : Nat}, RowOk d wi r → RowF d wi r := by
  intro d h
  have plain : ∀ {w : Str} {fs : List V}, plainOk wi w fs → RowF d wi (.plain w fs) := by
    intro w fs h
    obtain ⟨ks, hk, hp, hc⟩ := id h
    have nm : w ≠ "make" := plainT_make _ hk
    obtain ⟨names, e, hl, hz, hok⟩ := flds_plain h d (wi || decide (w = "make"))
    have ef : flds (.plain w fs) = names.zip (fs.map Fl.at) := by
      show ((fieldsOf w).getD []).zip (fs.map Fl.at) = _
      rw [e]; rfl
    have f3 := (plain_atoms h).2
    have f1 : ∀ p ∈ plainT, 1 ≤ p.2.length := by decide +kernel
    have l1 := f1 _ hk
    have l2 := paired_len hp
    refine ⟨by rw [ef, hz]; exact e, by rw [ef]; exact hok, ?_, ?_, ?_, ?_⟩
    · rw [ef, List.length_zip, List.length_map]; omega
    · rw [ef, List.length_zip, List.length_map]
      have : 1 ≤ ks.length := l1
      omega
    · cases wi with
      | false => rfl
      | true =>
        show (decide (w = "make") || decide (w = "call")) = false
        rw [decide_eq_false nm, decide_eq_false (hc rfl)]
        rfl
    · rw [ef]
      show [] = _
      symm
      rw [List.filterMap_eq_nil_iff]
      intro f hf
      obtain ⟨v, _, hv⟩ := List.mem_map.mp (List.of_mem_zip hf).2
      rw [← hv]
  cases d with
  | zero =>
    cases r with
    | plain w fs => exact plain h
    | _ => exact h.elim
  | succ d =>
    cases r with
    | plain w fs => exact plain h
    | make n b =>
      obtain ⟨h1, h2, h3, h4⟩ := h
      subst h1
      refine ⟨by show fieldsOf "make" = some (["word", "block"] : List Str); decide +kernel, fun f hf => ?_, by show 2 ≤ 3; decide, by show 1 ≤ 2; decide, rfl, rfl⟩
      rcases List.mem_cons.mp hf with e | hf
      · rw [e]; exact .inl ⟨rfl, h2⟩
      · rw [List.mem_singleton.mp hf]
        exact ⟨rfl, d, rfl, h3, h4⟩
    | when n b c =>
      obtain ⟨h1, h2, h3, h4, h5⟩ := h
      have ew : (wi || decide (rowWord (.when n b c) = "make")) = wi := by
        show (wi || decide (("when" : Str) = "make")) = wi
        rw [show decide (("when" : Str) = "make") = false by decide +kernel, Bool.or_false]
      refine ⟨by show fieldsOf "when" = some (["word", "block", "block"] : List Str); decide +kernel, fun f hf => ?_, by show 3 ≤ 3; decide, by show 1 ≤ 3; decide, ?_, rfl⟩
      · rw [ew]
        rcases List.mem_cons.mp hf with e | hf
        · rw [e]; exact .inl ⟨rfl, h1⟩
        · rcases List.mem_cons.mp hf with e | hf
          · rw [e]; exact ⟨rfl, d, rfl, h2, h4⟩
          · rw [List.mem_singleton.mp hf]; exact ⟨rfl, d, rfl, h3, h5⟩
      · show (wi && (decide (("when" : Str) = "make") || decide (("when" : Str) = "call"))) = false
        rw [show decide (("when" : Str) = "make") = false by decide +kernel, show decide (("when" : Str) = "call") = false by decide +kernel, Bool.or_false, Bool.and_false]
    | try_ b c =>
      obtain ⟨h2, h3, h4, h5⟩ := h
      have ew : (wi || decide (rowWord (.try_ b c) = "make")) = wi := by
        show (wi || decide (("try" : Str) = "make")) = wi
        rw [show decide (("try" : Str) = "make") = false by decide +kernel, Bool.or_false]
      refine ⟨by show fieldsOf "try" = some (["block", "block"] : List Str); decide +kernel, fun f hf => ?_, by show 2 ≤ 3; decide, by show 1 ≤ 2; decide, ?_, rfl⟩
      · rw [ew]
        rcases List.mem_cons.mp hf with e | hf
        · rw [e]; exact ⟨rfl, d, rfl, h2, h4⟩
        · rw [List.mem_singleton.mp hf]; exact ⟨rfl, d, rfl, h3, h5⟩
      · show (wi && (decide (("try" : Str) = "make") || decide (("try" : Str) = "call"))) = false
        rw [show decide (("try" : Str) = "make") = false by decide +kernel, show decide (("try" : Str) = "call") = false by decide +kernel, Bool.or_false, Bool.and_false]
section
variable {ok : Addr → Prop} {kk : Bool → Bool → Prop} {H : Hp}
theorem zip_at : ∀ {names : List Str} {fs : List V} {d : Nat}, names.length = fs.length → Paired (fun x (f : Str × Fl) => FlAt ok kk H d x f.2) fs (names.zip (fs.map Fl.at))
  | [], [], _, _ => .nil
  | [], _ :: _, _, h => by cases h
  | _ :: _, [], _, h => by cases h
  | n :: names, v :: fs, d, h => .cons rfl (zip_at (Nat.succ.inj h))
theorem zip_at' : ∀ {names : List Str} {fs rest : List V} {d : Nat}, names.length = fs.length → Paired (fun x (f : Str × Fl) => FlAt ok kk H d x f.2) rest (names.zip (fs.map Fl.at)) → rest = fs
  | [], [], rest, _, _, h => by cases h; rfl
  | [], _ :: _, _, _, h, _ => by cases h
  | _ :: _, [], _, _, h, _ => by cases h
  | n :: names, v :: fs, [], d, h, q => by cases q
  | n :: names, v :: fs, x :: rest, d, h, q => by
    cases q with
    | cons r t =>
      have e : x = v := r
      rw [e, zip_at' (Nat.succ.inj h) t]
/-- a row's things, by its fields -/
theorem rowV_of {wi : Bool} {r : Row} {v : V} : ∀ {d : Nat}, RowOk d wi r → RowAt ok kk H d v r → ∃ rest, At ok (kk false) H v (.str (rowWord r) :: rest) ∧ Paired (fun x (f : Str × Fl) => FlAt ok kk H d x f.2) rest (flds r) := by
  intro d hk h
  have plain : ∀ {w : Str} {fs : List V}, plainOk wi w fs → At ok (kk false) H v (.str w :: fs) → ∃ rest, At ok (kk false) H v (.str w :: rest) ∧ Paired (fun x (f : Str × Fl) => FlAt ok kk H d x f.2) rest (flds (.plain w fs)) := by
    intro w fs hk h
    obtain ⟨names, e, hl, _, _⟩ := flds_plain hk 0 false
    refine ⟨fs, h, ?_⟩
    show Paired _ fs (((fieldsOf w).getD []).zip (fs.map Fl.at))
    rw [e]
    exact zip_at hl
  cases d with
  | zero =>
    cases r with
    | plain w fs => exact plain hk h
    | _ => exact h.elim
  | succ d =>
    cases r with
    | plain w fs => exact plain hk h
    | make n b =>
      obtain ⟨vb, xs, h1, h2, h3⟩ := h
      exact ⟨_, h1, .cons rfl (.cons ⟨d, rfl, xs, h2, h3⟩ .nil)⟩
    | when n b c =>
      obtain ⟨vb, xs, vc, ys, h1, h2, h3, h4, h5⟩ := h
      exact ⟨_, h1, .cons rfl (.cons ⟨d, rfl, xs, h2, h3⟩ (.cons ⟨d, rfl, ys, h4, h5⟩ .nil))⟩
    | try_ b c =>
      obtain ⟨vb, xs, vc, ys, h1, h2, h3, h4, h5⟩ := h
      exact ⟨_, h1, .cons ⟨d, rfl, xs, h2, h3⟩ (.cons ⟨d, rfl, ys, h4, h5⟩ .nil)⟩
theorem rowAt_of {wi : Bool} {r : Row} {v : V} {rest : List V} : ∀ {d : Nat}, RowOk d wi r → At ok (kk false) H v (.str (rowWord r) :: rest) → Paired (fun x (f : Str × Fl) => FlAt ok kk H d x f.2) rest (flds r) → RowAt ok kk H d v r := by
  intro d hk h q
  have plain : ∀ {w : Str} {fs : List V}, plainOk wi w fs → Paired (fun x (f : Str × Fl) => FlAt ok kk H d x f.2) rest (flds (.plain w fs)) → rest = fs := by
    intro w fs hk h
    obtain ⟨names, e, hl, _, _⟩ := flds_plain hk 0 false
    have h' : Paired (fun x (f : Str × Fl) => FlAt ok kk H d x f.2) rest (((fieldsOf w).getD []).zip (fs.map Fl.at)) := h
    rw [e] at h'
    exact zip_at' hl h'
  cases d with
  | zero =>
    cases r with
    | plain w fs => rw [plain hk q] at h; exact h
    | _ => exact hk.elim
  | succ d =>
    cases r with
    | plain w fs => rw [plain hk q] at h; exact h
    | make n b =>
      cases q with
      | cons r1 t =>
        cases t with
        | cons r2 t =>
          cases t
          obtain ⟨e, he, xs, h2, h3⟩ := r2
          have e1 := Nat.succ.inj he
          subst e1
          have e2 := r1
          cases e2
          exact ⟨_, xs, h, h2, h3⟩
    | when n b c =>
      cases q with
      | cons r1 t =>
        cases t with
        | cons r2 t =>
          cases t with
          | cons r3 t =>
            cases t
            obtain ⟨e, he, xs, h2, h3⟩ := r2
            have e1 := Nat.succ.inj he
            subst e1
            obtain ⟨e, he, ys, h4, h5⟩ := r3
            have e1 := Nat.succ.inj he
            subst e1
            have e2 := r1
            cases e2
            exact ⟨_, xs, _, ys, h, h2, h3, h4, h5⟩
    | try_ b c =>
      cases q with
      | cons r2 t =>
        cases t with
        | cons r3 t =>
          cases t
          obtain ⟨e, he, xs, h2, h3⟩ := r2
          have e1 := Nat.succ.inj he
          subst e1
          obtain ⟨e, he, ys, h4, h5⟩ := r3
          have e1 := Nat.succ.inj he
          subst e1
          exact ⟨_, xs, _, ys, h, h2, h3, h4, h5⟩
end
end Ft
set_option Elab.async false
set_option linter.all false
set_option maxRecDepth 100000
set_option maxHeartbeats 4000000
namespace Ft
open PySem L2
theorem cut1 (x : V) (rest : List V) : cutV (x :: rest) (some 1) none = rest := by
  unfold cutV
  rw [show HT.sIx (x :: rest).length 0 (some 1) = min 1 (x :: rest).length from HT.sIx_nat _ 0 1, HT.sIx_none]
  rw [show min 1 (x :: rest).length = 1 by rw [List.length_cons]; omega]
  show List.take (rest.length + 1 - 1) rest = rest
  rw [Nat.add_sub_cancel, List.take_length]
theorem not_whole1 (x : V) (rest : List V) : ¬ (HT.sIx (x :: rest).length 0 (some 1) = 0 ∧ HT.sIx (x :: rest).length (x :: rest).length none = (x :: rest).length) := fun ⟨e, _⟩ => by
  rw [show HT.sIx (x :: rest).length 0 (some 1) = min 1 (x :: rest).length from HT.sIx_nat _ 0 1, List.length_cons] at e
  omega
/-- x[1:] of a list or a tuple with a head -/
theorem rSl1 {kd : Bool} {K : PySem.W.Frag} {H : Hp} {a : Addr} {x : V} {rest : List V} {Q : VK} (h : H a = some (mkO kd (x :: rest))) (q : ∀ p H', Same H H' → H p = none → H' p = some (mkO kd rest) → Q (.ref p) H') :
    rSlL K (.ref a) (some 1) none H Q ∨ rSlT K (.ref a) (some 1) none H Q := by
  cases kd with
  | true => exact .inl ⟨a, _, rfl, SqL.of h, fun p np => q p _ (Same.new np) np (by rw [upd_same, cut1]; rfl)⟩
  | false => exact .inr ⟨a, _, rfl, SqT.of h, not_whole1 x rest, fun p np => q p _ (Same.new np) np (by rw [upd_same, cut1]; rfl)⟩
def blkOf (f : Str × Fl) : Option (List Row) := match f.2 with
  | .blk b => some b
  | .at _ => none
section
variable {P : Program} {w : World} {K : PySem.W.Frag} {mg : Str → Option Value} {base : Heap}
abbrev sBlocksOf : Stmt := topS 20
theorem scBlocksOf : FnScope ["row", "field", "part"] ["row"] (defScope sBlocksOf) := ⟨rfl, rfl, rfl, by decide +kernel, rfl, by decide +kernel, by decide +kernel⟩
def BlkAt (ok : Addr → Prop) (kk : Bool → Bool → Prop) (H : Hp) (d : Nat) (x : V) (b : List Row) : Prop := ∃ e, d = e + 1 ∧ RowsAt ok kk H e x b
def spBlocksOf : Sp := fun vs H Q _ => ∃ (v : V) (ok : Addr → Prop) (kk : Bool → Bool → Prop) (d : Nat) (wi : Bool) (r : Row), vs = [v] ∧ RowOk d wi r ∧ RowAt ok kk H d v r ∧
  ∀ H' p ys, Same H H' → H p = none → H' p = some (.lst ys) → Paired (BlkAt ok kk H d) ys (blocks r) → Q (.ref p) H'
theorem ok_BlocksOf {f dF : Addr} {fd : FuncData} {k : Nat} (F : Fun K "blocks_of" "blocks_of" sBlocksOf f fd) (B : Bl mg) (TF : FldT K w mg dF) : FnOk P w K mg base CX0 (k + 1) f fd ["row"] spBlocksOf := by
  obtain ⟨es, nn, D⟩ := TF.dict
  refine F.ok scBlocksOf (fun vs H Q E h => ?_) (fun cdv A outer s H vs Q E hr h => ?_)
  · obtain ⟨v, ok, kk, d, wi, r, rfl, _⟩ := h
    rfl
  obtain ⟨v, ok, kk, d, wi, r, rfl, hok, hat, q⟩ := h
  refine ⟨_, (pss_one (ps_ret (pe_lc (own := [("field", 1), ("part", 2)]) (g := (gTup _ 2 (gCons (gName 1) (gCons (gName 2) gNil)))) (by rfl) scBlocksOf.nd (pi_zipQ (by rfl) B.zip (pa_cons (pe_ix ix_kdict (pe_glob (v := .ref dF) (by rfl) TF.g rfl) (pe_ix ix_seq (pv 0) pe_int (fun _ _ => rfl)) (fun _ _ => rfl)) (pa_cons (pe_slice sl_seq (pv 0) (po_some pe_int) po_none) pa_nil))) (blkOk_by (own := [("field", 1), ("part", 2)]) (N := ["row", "field", "part"]) (sc := defScope sBlocksOf) (by decide +kernel)) (fun _ _ _ _ _ => (pg_tup (by rfl) (pgs_cons (pg_name (i := 1) scBlocksOf.nd rfl (by first | exact Or.inl rfl | exact Or.inr rfl)) (pgs_cons (pg_name (i := 2) scBlocksOf.nd rfl (by first | exact Or.inl rfl | exact Or.inr rfl)) pgs_nil)))) (fun _ _ _ _ _ => (pts_one (pt_cmpR op_eq (pv 1) pe_str (nomark _)))) (fun _ _ _ _ _ => (pv 2))))), ?_⟩
  have rf := rowF_of hok
  obtain ⟨rest, ⟨a, kd, rfl, oka, kka, ha⟩, hrest⟩ := rowV_of hok hat
  have hfs := fieldsOf_some rf.names
  obtain ⟨tA, hn, htA⟩ := TF.val _ hfs
  have ix : ∀ {Q' : VK}, Q' (.str (rowWord r)) H → rIx K (.ref a) (.int 0) H Q' := fun h => rIx_seq (sq_of ha) (atI_nat (j := 0) rfl) h
  refine ⟨_, rfl, ix ⟨dF, rowWord r, .ref tA, rfl, rfl, ⟨es, nn, .ref tA, D.at_, D.lit, hn, rfl⟩, ?_⟩⟩
  refine ⟨_, rfl, 1, rfl, rSl1 ha fun p G sm np hp => ?_⟩
  have lr : rest.length = (flds r).length := paired_len hrest
  have few := rf.few
  refine ⟨tA, p, false, kd, _, rest, rfl, htA G, sq_of hp, fun L nL => ?_⟩
  refine lc_it (walk_zipQ (n := (flds r).length) (by rw [List.length_map, List.length_map]; omega)) (fun i H' => Same G H' ∧ ∃ ys, H' L = some (.lst ys) ∧ Paired (BlkAt ok kk H d) ys (((flds r).take i).filterMap blkOf) ∧ ys.length ≤ i)
    ⟨Same.new nL, [], upd_same, .nil, Nat.le_refl _⟩ (fun i H' _ ⟨s4, _⟩ => ⟨htA H', sq_of (s4 _ _ hp)⟩) ?_ ?_
  · rintro i x H1 H2 hi ⟨s4, ys, hL, hys, hle⟩ ⟨T, x1, x2, rfl, nT, rfl, e1, e2⟩
    obtain ⟨ff, hff, hx2⟩ := paired_get hrest e2
    obtain rfl : x1 = .str ff.1 := by
      have e1' : (((flds r).map (·.1)).map V.str)[i]? = some x1 := e1
      rw [List.getElem?_map, List.getElem?_map, hff] at e1'
      exact (Option.some.inj e1').symm
    have fok := rf.ok ff (List.mem_of_getElem? hff)
    have s5 : Same G (upd H1 T (.tup [.str ff.1, x2])) := Same.trans s4 (Same.new nT)
    have nLT : L ≠ T := ne_of_none hL nT
    have hL2 : (upd H1 T (.tup [.str ff.1, x2])) L = some (.lst ys) := by rw [upd_ne nLT]; exact hL
    have et : (flds r).take (i + 1) = (flds r).take i ++ [ff] := by rw [List.take_add_one, hff]; rfl
    refine ⟨T, _, rfl, SqT.of upd_same, rfl, _, _, rfl, _, _, rfl, rfl, rfl, ?_⟩
    refine ⟨_, rfl, rfl, _, rfl, ite2 (fun c => ?_) (fun c => ?_)⟩
    · have ec : ff.1 = "block" := V.str.inj (of_decide_eq_true c)
      cases hfl : ff.2 with
      | «at» v =>
        rw [hfl] at fok
        rcases fok with ⟨h, _⟩ | ⟨h, _⟩
        · rw [ec] at h; exact absurd h (by decide)
        · rw [ec] at h; exact absurd h (by decide)
      | blk b =>
        rw [hfl] at hx2
        refine ⟨_, rfl, ys, hL2, small (by omega), Same.upN s5 nL, ys ++ [x2], upd_same, ?_, by simp; omega⟩
        rw [et, List.filterMap_append]
        have eb : List.filterMap blkOf [ff] = [b] := by
          rw [List.filterMap_cons, List.filterMap_nil]
          unfold blkOf
          rw [hfl]
        rw [eb]
        exact paired_app (show BlkAt ok kk H d x2 b from hx2) hys
    · have ec : ff.1 ≠ "block" := fun h => c (by rw [h]; exact decide_eq_true rfl)
      cases hfl : ff.2 with
      | blk b =>
        rw [hfl] at fok
        exact absurd fok.1 ec
      | «at» v =>
        refine ⟨s5, ys, hL2, ?_, by omega⟩
        rw [et, List.filterMap_append]
        have eb : List.filterMap blkOf [ff] = [] := by
          rw [List.filterMap_cons, List.filterMap_nil]
          unfold blkOf
          rw [hfl]
        rw [eb, List.append_nil]
        exact hys
  · rintro H1 ⟨s4, ys, hL, hys, hle⟩
    rw [List.take_length] at hys
    have eb : blocks r = (flds r).filterMap blkOf := rf.blk
    rw [← eb] at hys
    exact q _ L ys (Same.trans sm s4) (Same.free sm nL) hL hys
end
end Ft
set_option Elab.async false
set_option linter.all false
set_option maxRecDepth 100000
set_option maxHeartbeats 4000000
namespace Ft
open PySem L2
def isRef : V → Bool
  | .ref _ => true
  | _ => false
theorem isW_len {z : Str} (h : isW z = true) : z.length ≤ 8 := by
  unfold isW at h
  rw [Bool.and_eq_true, Bool.and_eq_true] at h
  exact of_decide_eq_true h.2.1
theorem atom_known {K : PySem.W.Frag} {H : Hp} {x : V} (h : isAtom x = true) (hz : ∀ z, x = .str z → z.length ≤ sizeLine) : KnownS K H isRef x := by
  refine ⟨?_, atomT x, atom_ty h, ?_⟩
  · cases x with
    | non => exact .inr (.inl rfl)
    | bl b => exact .inr (.inr (.inl ⟨b, rfl⟩))
    | int i => exact .inr (.inr (.inr (.inl ⟨i, rfl⟩)))
    | str z => exact .inl ⟨z, rfl, hz z rfl⟩
    | _ => cases h
  · rw [atom_lt h]
    cases x <;> first | rfl | cases h
theorem seq_known {K : PySem.W.Frag} {H : Hp} {ok : Addr → Prop} {kk : Bool → Prop} {v : V} {xs : List V} (h : At ok kk H v xs) : KnownS K H isRef v := by
  obtain ⟨a, kd, rfl, _, _, h⟩ := h
  refine ⟨.inr (.inr (.inr (.inr ⟨a, seqT kd, rfl, seq_ty h, by cases kd <;> decide⟩))), seqT kd, seq_ty h, seq_lt kd⟩
/-- a right row is taken -/
theorem row_taken {K : PySem.W.Frag} {H : Hp} {ok : Addr → Prop} {kk : Bool → Bool → Prop} {d : Nat} {wi : Bool} {r : Row} {rest : List V} (hok : RowOk d wi r) (hrest : Paired (fun x (f : Str × Fl) => FlAt ok kk H d x f.2) rest (flds r)) :
    (∀ x ∈ (.str (rowWord r) :: rest : List V), KnownS K H isRef x) ∧ rowB isRef wi (.str (rowWord r) :: rest) = true := by
  have rf := rowF_of hok
  have each : ∀ (i : Nat) (x : V), rest[i]? = some x → ∃ f : Str × Fl, (flds r)[i]? = some f ∧ KnownS K H isRef x ∧ fieldB isRef f.1 x = true := by
    intro i x hx
    obtain ⟨f, hf, hat⟩ := paired_get hrest hx
    have fok := rf.ok f (List.mem_of_getElem? hf)
    refine ⟨f, hf, ?_⟩
    obtain ⟨name, fl⟩ := f
    cases fl with
    | «at» v =>
      have e : x = v := hat
      subst e
      rcases fok with ⟨h1, h2⟩ | ⟨h1, i, h2, _⟩
      · have h1' : name = "word" := h1
        subst h1'
        cases x with
        | str z => exact ⟨atom_known rfl fun y e => by rw [← V.str.inj e]; exact smallE (by have := isW_len h2; omega), h2⟩
        | _ => cases h2
      · have h1' : name = "number" := h1
        subst h1'
        subst h2
        exact ⟨atom_known rfl fun y e => (nomatch e), by
          show (if ("number" : Str) = "word" then wordV (.int i) else if ("number" : Str) = "number" then intV (.int i) else isRef (.int i)) = true
          rw [if_neg (by decide), if_pos rfl]; rfl⟩
    | blk b =>
      have h1 : name = "block" := fok.1
      subst h1
      obtain ⟨e, _, ys, h2, _⟩ := hat
      refine ⟨seq_known h2, ?_⟩
      obtain ⟨a, kd, rfl, _⟩ := h2
      rfl
  refine ⟨fun x hx => ?_, ?_⟩
  · rcases List.mem_cons.mp hx with e | hx
    · rw [e]
      refine atom_known rfl fun y e => ?_
      rw [← V.str.inj e]
      have hfs := fieldsOf_some rf.names
      have : ∀ p ∈ fieldsT, p.1.length ≤ 8 := by decide +kernel
      exact smallE (by have := this _ hfs; have e2 : (rowWord r, (flds r).map (·.1)).1 = rowWord r := rfl; rw [e2] at this; omega)
    · obtain ⟨i, hi, e⟩ := List.mem_iff_getElem.mp hx
      obtain ⟨f, _, h, _⟩ := each i x (by rw [List.getElem?_eq_getElem hi, e])
      exact h
  · rw [rowB_str, rf.names]
    show (!(wi && (decide (rowWord r = "make") || decide (rowWord r = "call"))) && (decide (rest.length = ((flds r).map (·.1)).length) && _)) = true
    rw [rf.word, List.length_map, decide_eq_true (paired_len hrest)]
    rw [Bool.not_false, Bool.true_and, Bool.true_and, List.all_eq_true]
    intro p hp
    obtain ⟨i, hi, e⟩ := List.mem_iff_getElem.mp hp
    have ep : (((flds r).map (·.1)).zip rest)[i]? = some p := by rw [List.getElem?_eq_getElem hi, e]
    obtain ⟨e1, e2⟩ := List.getElem?_zip_eq_some.mp ep
    obtain ⟨f, hf, _, h⟩ := each i p.2 e2
    rw [List.getElem?_map, hf] at e1
    have e3 : f.1 = p.1 := Option.some.inj e1
    rw [← e3]
    exact h
section
variable {P : Program} {w : World} {K : PySem.W.Frag} {mg : Str → Option Value} {base : Heap}
abbrev sFirstWrong : Stmt := topS 21
theorem scFirstWrong : FnScope ["rows", "path", "is_within", "k", "row", "here", "b", "block", "found"] ["rows", "path", "is_within"] (defScope sFirstWrong) := ⟨rfl, rfl, rfl, by decide +kernel, rfl, by decide +kernel, by decide +kernel⟩
def PathAt (H : Hp) (v : V) (p : List Int) : Prop := ∃ a, v = .ref a ∧ H a = some (.tup (p.map V.int))
def spFirstWrong (d : Nat) : Sp := fun vs H Q _ => ∃ (v pv : V) (ok : Addr → Prop) (kk : Bool → Bool → Prop) (wi : Bool) (rs : List Row) (p : List Int), vs = [v, pv, .bl wi] ∧ RowsAt ok kk H d v rs ∧ rs.length ≤ 24 ∧ (∀ r ∈ rs, RowOk d wi r) ∧ PathAt H pv p ∧ p.length + 2 * d ≤ 100 ∧
  ∀ H', Same H H' → Q .non H'
theorem ok_FirstWrong {f : Addr} {fd : FuncData} {k d : Nat} {spF : Sp} (F : Fun K "first_wrong" "first_wrong" sFirstWrong f fd) (B : Bl mg) (hk : 4 ≤ k) (gIsRow : Own P w K mg base 4 "is_row" ["thing", "is_within"] (spIsRow K)) (gBlocksOf : Own P w K mg base 1 "blocks_of" ["row"] spBlocksOf)
    (gFirstWrong : Own P w K mg base k "first_wrong" ["rows", "path", "is_within"] spF) (hF : ∀ e, d = e + 1 → spF = spFirstWrong e) : FnOk P w K mg base CX0 (k + 1) f fd ["rows", "path", "is_within"] (spFirstWrong d) := by
  refine F.ok scFirstWrong (fun vs H Q E h => ?_) (fun cdv A outer s H vs Q E hr h => ?_)
  · obtain ⟨v, pv, ok, kk, wi, rs, p, rfl, _⟩ := h
    rfl
  obtain ⟨v, pv, ok, kk, wi, rs, p, rfl, ⟨xs, ⟨a, kd, rfl, oka, kka, ha⟩, hxs⟩, hlen, hok, ⟨pa, rfl, hpa⟩, hpl, q⟩ := h
  refine ⟨_, (pss_cons (ps_for PassesOwn.never rfl (pi_enumQ (by rfl) B.enumerate (pa_cons (pv 0) pa_nil)) (pg_tup (by rfl) (pgs_cons (pg_name (i := 3) scFirstWrong.nd rfl (by first | exact Or.inl rfl | exact Or.inr rfl)) (pgs_cons (pg_name (i := 4) scFirstWrong.nd rfl (by first | exact Or.inl rfl | exact Or.inr rfl)) pgs_nil))) (pss_cons (ps_set (i := 5) scFirstWrong.nd rfl (by first | exact Or.inl rfl | exact Or.inr rfl) (pe_mid (pe_op op_catA (pv 1) (pe_tup (pa_cons (pv 3) pa_nil)))))
      (pss_cons (ps_if (pt_not (pt_val (pe_own gIsRow (hr.mono (by omega)) (by rfl) (pa_cons (pv 4) (pa_cons (pv 2) pa_nil))))) (pss_one (ps_ret (pv 5))) pss_nil)
      (pss_one (ps_for PassesOwn.never rfl (pi_enumQ (by rfl) B.enumerate (pa_cons (pe_own gBlocksOf (hr.mono (by omega)) (by rfl) (pa_cons (pv 4) pa_nil)) pa_nil)) (pg_tup (by rfl) (pgs_cons (pg_name (i := 6) scFirstWrong.nd rfl (by first | exact Or.inl rfl | exact Or.inr rfl)) (pgs_cons (pg_name (i := 7) scFirstWrong.nd rfl (by first | exact Or.inl rfl | exact Or.inr rfl)) pgs_nil))) (pss_cons (ps_set (i := 8) scFirstWrong.nd rfl (by first | exact Or.inl rfl | exact Or.inr rfl) (pe_own gFirstWrong (hr.mono (by omega)) (by rfl) (pa_cons (pv 7) (pa_cons (pe_mid (pe_op op_catA (pv 5) (pe_tup (pa_cons (pv 6) pa_nil)))) (pa_cons (pe_mid (pe_or (pv 2) (pe_one (pe_cmpR op_eq (pe_ix ix_seq (pv 4) pe_int (fun _ _ => rfl)) pe_str (nomark _))))) pa_nil)))))
      (pss_one (ps_if (pt_cmpR op_notN (pv 8) pe_non (nomark _)) (pss_one (ps_ret (pv 8))) pss_nil))))))))
      (pss_one (ps_ret pe_non))), ?_⟩
  refine ⟨_, rfl, a, kd, xs, rfl, sq_of ha, ?_⟩
  refine for_it walk_enumQ (fun i σ H' => Same H H' ∧ ∃ v3 v4 v5 v6 v7 v8, σ = [some (.ref a), some (.ref pa), some (.bl wi), v3, v4, v5, v6, v7, v8])
    ⟨Same.refl H, none, none, none, none, none, none, rfl⟩ (fun i σ H' _ ⟨sm, _⟩ => sq_of (sm _ _ ha)) ?_ ?_
  · rintro i x σ H1 H2 hi ⟨sm, v3, v4, v5, v6, v7, v8, rfl⟩ ⟨T, x1, x2, rfl, nT, rfl, e1, e2⟩
    have e1' : x1 = .int (i : Nat) := (Option.some.inj e1).symm
    subst e1'
    obtain ⟨r, hr', hrow⟩ := paired_get hxs e2
    have rok := hok r (List.mem_of_getElem? hr')
    have s2 : Same H (upd H1 T (.tup [.int (i : Nat), x2])) := Same.trans sm (Same.new nT)
    refine ⟨T, _, rfl, SqT.of upd_same, rfl, _, _, rfl, _, _, rfl, rfl, ?_⟩
    generalize hG : upd H1 T _ = G at *
    -- here = path + (k,)
    refine ⟨fun v H' => ∃ b, v = .ref b ∧ H' b = some (.tup ((p ++ [(i : Int)]).map V.int)) ∧ Same G H', ?_, ?_⟩
    · refine ⟨_, rfl, _, rfl, (by show 1 ≤ sizeLine; decide), fun t1 nt1 => ?_⟩
      refine ⟨pa, t1, p.map V.int, [.int (i : Nat)], rfl, rfl, SqT.of (Same.new nt1 _ _ (s2 _ _ hpa)), SqT.of upd_same, smallE (by rw [List.length_map]; simp; omega), fun e => ?_, fun _ e => (nomatch e), fun _ _ t2 nt2 => ?_⟩
      · have ep : p = [] := List.map_eq_nil_iff.mp e
        subst ep
        exact ⟨t1, rfl, upd_same, Same.new nt1⟩
      · exact ⟨t2, rfl, by rw [upd_same, List.map_append]; rfl, Same.trans (Same.new nt1) (Same.new nt2)⟩
    rintro hv G1 ⟨hb, rfl, hhb, s3⟩
    have s4 : Same H G1 := Same.trans s2 s3
    have hrow1 : RowAt ok kk G1 d x2 r := hrow.to (Keep.fr (Fr.same s4) fun _ k => k)
    obtain ⟨rest, ⟨ra, rkd, rfl, roka, rkka, hra⟩, hrest⟩ := rowV_of rok hrow1
    have rf := rowF_of rok
    have few := rf.few
    have lr : rest.length = (flds r).length := paired_len hrest
    obtain ⟨hkn, hrb⟩ := row_taken (K := K) rok hrest
    refine ⟨_, rfl, _, rfl, .ref ra, wi, rfl, .inr ⟨ra, rkd, _, isRef, rfl, hra, by simp; omega, hkn, fun G2 s5 => ?_⟩⟩
    rw [hrb]
    refine ⟨true, rfl, iteF ?_⟩
    have s6 : Same H G2 := Same.trans s4 s5
    have hrow2 : RowAt ok kk G2 d (.ref ra) r := hrow1.to (Keep.fr (Fr.same s5) fun _ k => k)
    refine ⟨_, rfl, .ref ra, ok, kk, d, wi, r, rfl, rok, hrow2, fun G3 bl ys s7 nb hbl hys => ?_⟩
    have lb : ys.length ≤ 3 := by
      rw [paired_len hys, rf.blk]
      exact Nat.le_trans (List.length_filterMap_le _ _) few
    refine ⟨bl, true, ys, rfl, sq_of hbl, ?_⟩
    refine for_it walk_enumQ (fun j σ H' => Same G3 H' ∧ ∃ v6 v7 v8, σ = [some (.ref a), some (.ref pa), some (.bl wi), some (.int (i : Nat)), some (.ref ra), some (.ref hb), v6, v7, v8])
      ⟨Same.refl _, v6, v7, v8, rfl⟩ (fun j σ H' _ ⟨sm, _⟩ => sq_of (kd := true) (sm _ _ hbl)) ?_ ?_
    · rintro j y σ H3 H4 hj ⟨sm4, w6, w7, w8, rfl⟩ ⟨T2, y1, y2, rfl, nT2, rfl, f1, f2⟩
      have f1' : y1 = .int (j : Nat) := (Option.some.inj f1).symm
      subst f1'
      obtain ⟨b, hb', hblk⟩ := paired_get hys f2
      obtain ⟨e, rfl, hrows⟩ := hblk
      have eF := hF e rfl
      subst eF
      have s8 : Same G3 (upd H3 T2 (.tup [.int (j : Nat), y2])) := Same.trans sm4 (Same.new nT2)
      refine ⟨T2, _, rfl, SqT.of upd_same, rfl, _, _, rfl, _, _, rfl, rfl, ?_⟩
      generalize hG4 : upd H3 T2 _ = G4 at *
      have s9 : Same G1 G4 := Same.trans s5 (Same.trans s7 s8)
      have hhb4 : G4 hb = some (.tup ((p ++ [(i : Int)]).map V.int)) := s9 _ _ hhb
      have bok : b.length ≤ 11 ∧ ∀ r' ∈ b, RowOk e (wi || decide (rowWord r = "make")) r' := by
        have hm : b ∈ blocks r := List.mem_of_getElem? hb'
        rw [rf.blk] at hm
        obtain ⟨ff, hff, eff⟩ := List.mem_filterMap.mp hm
        have fok := rf.ok ff hff
        cases hfl : ff.2 with
        | «at» v => rw [hfl] at eff; cases eff
        | blk b2 =>
          rw [hfl] at eff fok
          have e2 : b2 = b := Option.some.inj eff
          subst e2
          obtain ⟨_, e', he', h8, hr8⟩ := fok
          have : e = e' := Nat.succ.inj he'
          subst this
          exact ⟨h8, hr8⟩
      refine ⟨_, rfl, fun v H' => ∃ c, v = .ref c ∧ H' c = some (.tup ((p ++ [(i : Int)] ++ [(j : Int)]).map V.int)) ∧ Same G4 H', ?_, ?_⟩
      · refine ⟨_, rfl, _, rfl, (by show 1 ≤ sizeLine; decide), fun t1 nt1 => ?_⟩
        refine ⟨hb, t1, _, [.int (j : Nat)], rfl, rfl, SqT.of (Same.new nt1 _ _ hhb4), SqT.of upd_same, smallE (by rw [List.length_map]; simp; omega), fun e => (by simp at e), fun _ e => (nomatch e), fun _ _ t2 nt2 => ?_⟩
        exact ⟨t2, rfl, by rw [upd_same, List.map_append (l₁ := p ++ [(i : Int)])]; rfl, Same.trans (Same.new nt1) (Same.new nt2)⟩
      rintro cv G5 ⟨c, rfl, hc, s10⟩
      have s11 : Same G2 G5 := Same.trans s7 (Same.trans s8 s10)
      refine ⟨fun v H' => v = .bl (wi || decide (rowWord r = "make")) ∧ G5 = H', ?_, ?_⟩
      · refine ⟨_, rfl, wi, rfl, ?_⟩
        cases wi with
        | true => exact iteT ⟨rfl, rfl⟩
        | false =>
          have hra5 := Same.trans s5 s11 _ _ hra
          refine iteF ⟨_, rfl, rIx_seq (sq_of hra5) (atI_nat (j := 0) rfl) ⟨rfl, ?_, rfl⟩⟩
          rw [Bool.false_or]
          have : (V.str (rowWord r) = V.str "make") ↔ (rowWord r = "make") := ⟨fun e => V.str.inj e, fun e => by rw [e]⟩
          rw [decide_eq_decide.mpr this]
      rintro _ _ ⟨rfl, rfl⟩
      have hrows5 : RowsAt ok kk G5 e y2 b := hrows.to (Keep.fr (Fr.same s11) fun _ k => k)
      refine ⟨y2, .ref c, ok, kk, _, b, p ++ [(i : Int)] ++ [(j : Int)], rfl, hrows5, by have := bok.1; omega, bok.2, ⟨c, rfl, hc⟩, by simp; omega, fun G6 s12 => ?_⟩
      refine ⟨_, rfl, rfl, _, rfl, iteF ⟨Same.trans s8 (Same.trans s10 s12), _, _, _, rfl⟩⟩
    · rintro σ H3 ⟨sm4, w6, w7, w8, rfl⟩
      exact ⟨Same.trans s6 (Same.trans s7 sm4), _, _, _, _, _, _, rfl⟩
  · rintro σ H1 ⟨sm, v3, v4, v5, v6, v7, v8, rfl⟩
    exact q _ sm
theorem firstWrong_ok {f : Addr} {fd : FuncData} (F : Fun K "first_wrong" "first_wrong" sFirstWrong f fd) (B : Bl mg) (m : mg "first_wrong" = some (.ref f)) (b : Binds K fd ["rows", "path", "is_within"] []) (gIsRow : Own P w K mg base 4 "is_row" ["thing", "is_within"] (spIsRow K)) (gBlocksOf : Own P w K mg base 1 "blocks_of" ["row"] spBlocksOf) :
    ∀ d : Nat, Own P w K mg base (5 + d) "first_wrong" ["rows", "path", "is_within"] (spFirstWrong d)
  | 0 => own_mk F m b (ok_FirstWrong (k := 4) F B (by omega) gIsRow gBlocksOf (own_mk F m b fn_false) (fun e h => absurd h (by omega)))
  | d + 1 => own_mk F m b (ok_FirstWrong (k := 5 + d) F B (by omega) gIsRow gBlocksOf (firstWrong_ok F B m b gIsRow gBlocksOf d) (fun e h => by
      have : d = e := by omega
      rw [this]))
end
end Ft
set_option Elab.async false
set_option linter.all false
set_option maxRecDepth 100000
set_option maxHeartbeats 4000000
namespace Ft
open PySem L2
/-- a right library -/
structure LibR (lib : Lib) : Prop where
  few : lib.length ≤ 8
  pos : 0 < lib.length
  nd : (lib.map (·.1)).Nodup
  word : ∀ m ∈ lib, isW m.1 = true
  len : ∀ m ∈ lib, m.2.length ≤ 24
  rows : ∀ m ∈ lib, ∀ r ∈ m.2, RowOk 3 false r
section
variable {P : Program} {w : World} {K : PySem.W.Frag} {mg : Str → Option Value} {base : Heap}
abbrev sCheckModules : Stmt := topS 22
theorem scCheckModules : FnScope ["modules", "word", "path"] ["modules"] (defScope sCheckModules) := ⟨rfl, rfl, rfl, by decide +kernel, rfl, by decide +kernel, by decide +kernel⟩
def spCheckModules : Sp := fun vs H Q _ => ∃ (dm : Addr) (kvs : List (Key × V)) (lib : Lib) (ok : Addr → Prop) (kk : Bool → Bool → Prop), vs = [.ref dm] ∧ H dm = some (.dK kvs) ∧ LibAt ok kk H kvs lib ∧ LibR lib ∧ ∀ H', Same H H' → Q .non H'
theorem ok_CheckModules {f : Addr} {fd : FuncData} {k : Nat} (F : Fun K "check_modules" "check_modules" sCheckModules f fd) (B : Bl mg) (hk : 8 ≤ k) (gIsWord : Own P w K mg base 1 "is_word" ["thing"] (spIsWord K)) (gFirstWrong : Own P w K mg base 8 "first_wrong" ["rows", "path", "is_within"] (spFirstWrong 3)) : FnOk P w K mg base CX0 (k + 1) f fd ["modules"] spCheckModules := by
  refine F.ok scCheckModules (fun vs H Q E h => ?_) (fun cdv A outer s H vs Q E hr h => ?_)
  · obtain ⟨dm, kvs, lib, ok, kk, rfl, _⟩ := h
    rfl
  obtain ⟨dm, kvs, lib, ok, kk, rfl, hdm, hlib, lr, q⟩ := h
  refine ⟨_, (pss_cons (ps_if (PW.pt (pw_or (pt_not (pt_val (pe_callB call_isi (by rfl) B.isinstance (by decide +kernel) (pa_cons (pv 0) (pa_cons (pe_bltn (v := .ty "dict") (by rfl) B.dict (by decide +kernel) rfl) pa_nil))))) (pw_or (pt_cmpR op_eq (pe_callB call_lenD (by rfl) B.len (by decide +kernel) (pa_cons (pv 0) pa_nil)) pe_int (nomark _)) (pw_or1 (pt_not (pt_val (pe_callB (cr_all rfl) (by rfl) B.all (by decide +kernel) (pa_cons (pe_lock (pe_lc (own := [("word", 1)]) (g := (gName 1)) (tt := tYes) (by rfl) scCheckModules.nd (pi_keys (pv 0)) (blkOk_by (own := [("word", 1)]) (N := ["modules", "word", "path"]) (sc := defScope sCheckModules) (by decide +kernel)) (fun _ _ _ _ _ => (pg_name (i := 1) scCheckModules.nd rfl (by first | exact Or.inl rfl | exact Or.inr rfl))) (fun _ _ _ _ _ => pts_nil) (fun _ _ _ _ _ => (pe_own gIsWord (hr.mono (by omega)) (by rfl) (pa_cons (pv 1) pa_nil))))) pa_nil)))))))) (pss_one ps_never) pss_nil)
      (pss_one (ps_for PassesOwn.never rfl (pi_list (pe_callB (call_sortedD rfl) (by rfl) B.sorted (by decide +kernel) (pa_cons (pv 0) pa_nil))) (pg_name (i := 1) scCheckModules.nd rfl (by first | exact Or.inl rfl | exact Or.inr rfl)) (pss_cons (ps_if (pt_not (pt_val (pe_callB call_isiT (by rfl) B.isinstance (by decide +kernel) (pa_cons (pe_dget (hu_of hr) (pv 0) (pv 1) (fun _ _ => rfl)) (pa_cons (pe_tup (pa_cons (pe_bltn (v := .ty "list") (by rfl) B.list (by decide +kernel) rfl) (pa_cons (pe_bltn (v := .ty "tuple") (by rfl) B.tuple (by decide +kernel) rfl) pa_nil))) pa_nil))))) (pss_one ps_never) pss_nil)
      (pss_cons (ps_set (i := 2) scCheckModules.nd rfl (by first | exact Or.inl rfl | exact Or.inr rfl) (pe_own gFirstWrong (hr.mono (by omega)) (by rfl) (pa_cons (pe_dget (hu_of hr) (pv 0) (pv 1) (fun _ _ => rfl)) (pa_cons (pe_tup pa_nil) (pa_cons pe_bl pa_nil)))))
      (pss_one (ps_if (pt_cmpR op_notN (pv 2) pe_non (nomark _)) (pss_one ps_never) pss_nil))))))), ?_⟩
  have hkeys := libAt_keys hlib
  have hkl := libAt_len hlib
  have few := lr.few
  have keysW : ∀ z ∈ lib.map (·.1), isW z = true := fun z hz => by
    obtain ⟨m, hm, e⟩ := List.mem_map.mp hz
    rw [← e]; exact lr.word m hm
  refine ⟨_, rfl, _, _, _, _, _, rfl, .ty _, .base (.dK hdm), kit_ty (r := true) (by decide +kernel), true, rfl, iteF ?_⟩
  refine ⟨_, rfl, dm, kvs, rfl, hdm, rfl, _, rfl, ?_⟩
  have e0 : decide (V.int ((kvs.length : Nat) : Int) = V.int 0) = false := decide_eq_false (fun e => by
    have := V.int.inj e
    have := lr.pos
    omega)
  rw [e0]
  refine iteF ?_
  -- the keys
  refine ⟨dm, .dK kvs, hdm, trivial, fun od => ?_⟩
  refine ⟨_, rfl, dm, od, rfl, .inl ⟨kvs, upd_same, fun L nL => ?_⟩⟩
  have Ld : L ≠ dm := fun e => by rw [e, upd_same] at nL; cases nL
  refine lc_it walk_keys (fun i H' => Same (upd H dm (.frz od (.dK kvs))) H' ∧ H' L = some (.lst (List.replicate i (.bl true))))
    ⟨Same.new nL, upd_same⟩ (fun i H' _ ⟨sm, _⟩ => sm _ _ upd_same) ?_ ?_
  · rintro i x H1 H2 hi ⟨sm, hL⟩ ⟨rfl, kk', v', hkv, rfl⟩
    refine ⟨rfl, ?_⟩
    obtain ⟨z, hz, rfl⟩ : ∃ z, isW z = true ∧ kk' = Sum.inr z := by
      have : (kvs.map (·.1))[i]? = some kk' := by rw [List.getElem?_map, hkv]; rfl
      rw [hkeys, List.getElem?_map] at this
      obtain ⟨z, h1, h2⟩ := Option.map_eq_some_iff.mp this
      exact ⟨z, keysW z (List.mem_of_getElem? h1), h2.symm⟩
    have hzl := isW_len hz
    refine ⟨_, rfl, .str z, rfl, .inl ⟨z, rfl, smallE (by omega)⟩, fun H3 s3 => ?_⟩
    refine ⟨_, s3 _ _ hL, by rw [List.length_replicate]; exact small (by omega), Same.upN (Same.trans sm s3) nL, ?_⟩
    show (upd H3 L (.lst (List.replicate i (.bl true) ++ [.bl (isW z)]))) L = _
    rw [upd_same, hz, List.replicate_succ']
  · rintro H1 ⟨sm, hL⟩
    have hd1 : H1 dm = some (.frz od (.dK kvs)) := sm _ _ upd_same
    have sm1 : Same H (upd H1 dm (.dK kvs)) := fun b o e => by
      by_cases eb : b = dm
      · rw [eb, hdm] at e
        rw [eb, upd_same]; exact e
      · rw [upd_ne eb]
        exact sm _ _ (by rw [upd_ne eb]; exact e)
    refine ⟨hd1, L, List.replicate kvs.length true, rfl, SqL.of (by rw [upd_ne Ld, hL, List.map_replicate]), ?_⟩
    have ea : (List.replicate kvs.length true).all id = true := by
      rw [List.all_eq_true]
      intro b hb
      rw [List.eq_of_mem_replicate hb]; rfl
    rw [ea]
    refine ⟨true, rfl, iteF ?_⟩
    generalize hG : upd H1 dm _ = G at *
    have hdG : G dm = some (.dK kvs) := by rw [← hG]; exact upd_same
    -- sorted(modules)
    refine ⟨_, rfl, dm, kvs, lib.map (·.1), rfl, .inl hdG, hkeys, by rw [List.length_map]; omega, fun ys l0 hperm hsort nl0 => ?_⟩
    have s2 : Same G (upd G l0 (.lst (ys.map V.str))) := Same.new nl0
    refine ⟨l0, rfl, ⟨_, SqL.of upd_same⟩, ?_⟩
    refine for_it (walk_list (xs := ys.map V.str)) (fun i σ H' => Same (upd G l0 (.lst (ys.map V.str))) H' ∧ ∃ v1 v2, σ = [some (.ref dm), v1, v2])
      ⟨Same.refl _, _, _, rfl⟩ (fun i σ H' _ ⟨sm, _⟩ => SqL.of (sm _ _ upd_same)) ?_ ?_
    · rintro i x σ H2 H3 hi ⟨s3, v1, v2, rfl⟩ ⟨rfl, hx⟩
      obtain ⟨z, hz, rfl⟩ : ∃ z, z ∈ ys ∧ x = .str z := by
        rw [List.getElem?_map] at hx
        obtain ⟨z, h1, h2⟩ := Option.map_eq_some_iff.mp hx
        exact ⟨z, List.mem_of_getElem? h1, h2.symm⟩
      obtain ⟨⟨z', rs⟩, hm, e⟩ := List.mem_map.mp (hperm.mem_iff.mp hz)
      have e' : z' = z := e
      subst e'
      have s4 : Same H H3 := Same.trans sm1 (Same.trans s2 s3)
      have hlib3 : LibAt ok kk H3 kvs lib := hlib.to (Keep.fr (Fr.same s4) fun _ k => k)
      obtain ⟨v, hv, hrows⟩ := libAt_val hlib3 lr.nd hm
      have hd3 : H3 dm = some (.dK kvs) := s4 _ _ hdm
      have dg : DGet H3 dm (.str z') (some v) := by rw [← hv]; exact DGet.k (k := Sum.inr z') hd3
      obtain ⟨xs, hat, hall⟩ := id hrows
      have hat' := hat
      obtain ⟨a, kd, rfl, oka, kka, ha⟩ := hat'
      refine ⟨_, rfl, _, rfl, dm, .ref a, rfl, dg, (by show 2 ≤ sizeLine; decide), fun t0 nt => ?_⟩
      refine ⟨_, t0, _, _, _, _, rfl, upd_same, clsV_all ["list", "tuple"], seq_ty (Same.new nt _ _ ha), kitAny_of (seq_lt kd), true, rfl, iteF ?_⟩
      have s5 : Same H3 (upd H3 t0 (.tup [.ty "list", .ty "tuple"])) := Same.new nt
      generalize hG3 : upd H3 t0 _ = G3 at *
      have hd4 : G3 dm = some (.dK kvs) := s5 _ _ hd3
      have dg4 : DGet G3 dm (.str z') (some (.ref a)) := by rw [← hv]; exact DGet.k (k := Sum.inr z') hd4
      refine ⟨_, rfl, _, rfl, dm, .ref a, rfl, dg4, Nat.zero_le _, fun t1 nt1 => ?_⟩
      have s6 : Same H3 (upd G3 t1 (.tup [])) := Same.trans s5 (Same.new nt1)
      refine ⟨.ref a, .ref t1, ok, kk, false, rs, [], rfl, hrows.to (Keep.fr (Fr.same s6) fun _ k => k), lr.len _ hm, lr.rows _ hm, ⟨t1, rfl, upd_same⟩, by simp, fun G4 s7 => ?_⟩
      exact ⟨_, rfl, rfl, _, rfl, iteF ⟨Same.trans s3 (Same.trans s6 s7), _, _, rfl⟩⟩
    · rintro σ H2 ⟨s3, v1, v2, rfl⟩
      exact q _ (Same.trans sm1 (Same.trans s2 s3))
end
end Ft
set_option Elab.async false
set_option linter.all false
set_option maxRecDepth 100000
set_option maxHeartbeats 4000000
namespace Ft
open PySem L2
def tupK : Bool → Bool → Prop := fun _ b => b = false
theorem FlAt.to {ok ok' : Addr → Prop} {kk : Bool → Bool → Prop} {H H' : Hp} {d : Nat} {v : V} {f : Fl} (h : FlAt ok kk H d v f) (t : Keep ok ok' H H') : FlAt ok' kk H' d v f := by
  cases f with
  | «at» x => exact h
  | blk b =>
    obtain ⟨e, he, hr⟩ := h
    exact ⟨e, he, hr.to t⟩
section
variable {P : Program} {w : World} {K : PySem.W.Frag} {mg : Str → Option Value} {base : Heap}
abbrev sFrozen : Stmt := topS 23
theorem scFrozen : FnScope ["rows", "found", "row", "parts", "field", "part"] ["rows"] (defScope sFrozen) := ⟨rfl, rfl, rfl, by decide +kernel, rfl, by decide +kernel, by decide +kernel⟩
def spFrozen (d : Nat) : Sp := fun vs H Q _ => ∃ (v : V) (ok : Addr → Prop) (kk : Bool → Bool → Prop) (wi : Bool) (rs : List Row), vs = [v] ∧ RowsAt ok kk H d v rs ∧ rs.length ≤ 24 ∧ (∀ r ∈ rs, RowOk d wi r) ∧
  ∀ H' v', Same H H' → RowsAt (fun x => H x = none) tupK H' d v' rs → Q v' H'
theorem ok_Frozen {f dF : Addr} {fd : FuncData} {k d : Nat} {spF : Sp} (F : Fun K "frozen" "frozen" sFrozen f fd) (B : Bl mg) (TF : FldT K w mg dF)
    (gFrozen : Own P w K mg base k "frozen" ["rows"] spF) (hF : ∀ e, d = e + 1 → spF = spFrozen e) : FnOk P w K mg base CX0 (k + 1) f fd ["rows"] (spFrozen d) := by
  obtain ⟨es, nn, D⟩ := TF.dict
  refine F.ok scFrozen (fun vs H Q E h => ?_) (fun cdv A outer s H vs Q E hr h => ?_)
  · obtain ⟨v, ok, kk, wi, rs, rfl, _⟩ := h
    rfl
  obtain ⟨v, ok, kk, wi, rs, rfl, ⟨xs, ⟨a, kd, rfl, oka, kka, ha⟩, hxs⟩, hlen, hok, q⟩ := h
  refine ⟨_, (pss_cons (ps_set (i := 1) scFrozen.nd rfl (by first | exact Or.inl rfl | exact Or.inr rfl) (pe_lst pa_nil))
      (pss_cons (ps_for PassesOwn.never rfl (pi_seq (pv 0)) (pg_name (i := 2) scFrozen.nd rfl (by first | exact Or.inl rfl | exact Or.inr rfl)) (pss_cons (ps_setLc (i := 3) (own := [("field", 4), ("part", 5)]) (g := (gTup _ 2 (gCons (gName 4) (gCons (gName 5) gNil)))) (tt := tYes) (by rfl) scFrozen.nd rfl rfl (sw_true rfl rfl rfl (by decide +kernel)) (pi_zipQ (by rfl) B.zip (pa_cons (pe_ix ix_kdict (pe_glob (v := .ref dF) (by rfl) TF.g rfl) (pe_ix ix_seq (pv 2) pe_int (fun _ _ => rfl)) (fun _ _ => rfl)) (pa_cons (pe_slice sl_seq (pv 2) (po_some pe_int) po_none) pa_nil))) (blkOk_by (own := [("field", 4), ("part", 5)]) (N := ["rows", "found", "row", "parts", "field", "part"]) (sc := defScope sFrozen) (by decide +kernel)) (fun _ _ _ _ _ => (pg_tup (by rfl) (pgs_cons (pg_name (i := 4) scFrozen.nd rfl (by first | exact Or.inl rfl | exact Or.inr rfl)) (pgs_cons (pg_name (i := 5) scFrozen.nd rfl (by first | exact Or.inl rfl | exact Or.inr rfl)) pgs_nil)))) (fun _ _ _ _ _ => pts_nil) (fun _ _ _ _ _ => (pe_ifExp (pt_cmpR op_eq (pv 4) pe_str (nomark _)) (pe_own gFrozen (hr.mono (by omega)) (by rfl) (pa_cons (pv 5) pa_nil)) (pv 5))))
      (pss_one (ps_expr (pe_bm PySem.F.plainAttrs_list PySem.F.slot_list_append PySem.F.type_list_append mt_append (pv 1) (pa_cons (pe_op op_catA (pe_tup (pa_cons (pe_ix ix_seq (pv 2) pe_int (fun _ _ => rfl)) pa_nil)) (pe_callTy call_tuple_of (by rfl) B.tuple (by decide +kernel) (pa_cons (pv 3) pa_nil))) pa_nil))))))
      (pss_one (ps_ret (pe_callTy call_tuple_of (by rfl) B.tuple (by decide +kernel) (pa_cons (pv 1) pa_nil)))))), ?_⟩
  refine ⟨Nat.zero_le _, fun l nl => ?_⟩
  have s0 : Same H (upd H l (.lst [])) := Same.new nl
  refine ⟨_, rfl, a, kd, xs, rfl, sq_of (s0 _ _ ha), ?_⟩
  refine for_it walk_seq (fun i σ H' => Same H H' ∧ (∃ v2 v3 v4 v5, σ = [some (.ref a), some (.ref l), v2, v3, v4, v5]) ∧ ∃ zs, H' l = some (.lst zs) ∧ Paired (RowAt (fun x => H x = none ∧ x ≠ l) tupK H' d) zs (rs.take i))
    ⟨s0, ⟨none, none, none, none, rfl⟩, [], upd_same, .nil⟩ (fun i σ H' _ ⟨sm, _⟩ => sq_of (sm _ _ ha)) ?_ ?_
  · rintro i x σ H1 H2 hi ⟨sm, ⟨v2, v3, v4, v5, rfl⟩, zs, hl, hzs⟩ ⟨rfl, hx⟩
    obtain ⟨r, hr', hrow⟩ := paired_get hxs hx
    have rok := hok r (List.mem_of_getElem? hr')
    have rf := rowF_of rok
    have few := rf.few
    have hrow1 : RowAt ok kk H2 d x r := hrow.to (Keep.fr (Fr.same sm) fun _ k => k)
    obtain ⟨rest, ⟨ra, rkd, rfl, roka, rkka, hra⟩, hrest⟩ := rowV_of rok hrow1
    have lr : rest.length = (flds r).length := paired_len hrest
    have hfs := fieldsOf_some rf.names
    obtain ⟨tA, hn, htA⟩ := TF.val _ hfs
    have ix : ∀ {Q' : VK}, Q' (.str (rowWord r)) H2 → rIx K (.ref ra) (.int 0) H2 Q' := fun h => rIx_seq (sq_of hra) (atI_nat (j := 0) rfl) h
    refine ⟨_, rfl, ix ⟨dF, rowWord r, .ref tA, rfl, rfl, ⟨es, nn, .ref tA, D.at_, D.lit, hn, rfl⟩, ?_⟩⟩
    refine ⟨_, rfl, 1, rfl, rSl1 hra fun p G smG np hp => ?_⟩
    have hlG : G l = some (.lst zs) := smG _ _ hl
    refine ⟨tA, p, false, rkd, _, rest, rfl, htA G, sq_of hp, fun L nL => ?_⟩
    have nLH : H L = none := Same.free (Same.trans sm smG) nL
    have Ll : L ≠ l := fun e => by rw [e, hlG] at nL; cases nL
    refine lc_it (walk_zipQ (n := (flds r).length) (by rw [List.length_map, List.length_map]; omega)) (fun i H' => Same G H' ∧ ∃ ys, H' L = some (.lst ys) ∧ Paired (fun x (f : Str × Fl) => FlAt (fun x => H x = none ∧ x ≠ l ∧ x ≠ L) tupK H' d x f.2) ys ((flds r).take i))
      ⟨Same.new nL, [], upd_same, .nil⟩ (fun i H' _ ⟨s4, _⟩ => ⟨htA H', sq_of (s4 _ _ hp)⟩) ?_ ?_
    · rintro i2 y H3 H4 hi2 ⟨s4, ys, hL, hys⟩ ⟨T, x1, x2, rfl, nT, rfl, e1, e2⟩
      obtain ⟨ff, hff, hx2⟩ := paired_get hrest e2
      obtain rfl : x1 = .str ff.1 := by
        have e1' : (((flds r).map (·.1)).map V.str)[i2]? = some x1 := e1
        rw [List.getElem?_map, List.getElem?_map, hff] at e1'
        exact (Option.some.inj e1').symm
      have fok := rf.ok ff (List.mem_of_getElem? hff)
      have s5 : Same G (upd H3 T (.tup [.str ff.1, x2])) := Same.trans s4 (Same.new nT)
      have nLT : L ≠ T := ne_of_none hL nT
      have hL2 : (upd H3 T (.tup [.str ff.1, x2])) L = some (.lst ys) := by rw [upd_ne nLT]; exact hL
      have et : (flds r).take (i2 + 1) = (flds r).take i2 ++ [ff] := by rw [List.take_add_one, hff]; rfl
      have ly : ys.length ≤ 3 := by rw [paired_len hys, List.length_take]; omega
      have hys2 : ∀ {H5 : Hp} {z : V}, Same (upd H3 T (.tup [.str ff.1, x2])) H5 → Paired (fun x (f : Str × Fl) => FlAt (fun x => H x = none ∧ x ≠ l ∧ x ≠ L) tupK (upd H5 L (.lst (ys ++ [z]))) d x f.2) ys ((flds r).take i2) := fun {H5 z} s6 =>
        paired_imp hys fun v f h => h.to fun x kd zs k e => ⟨k, by rw [upd_ne k.2.2]; exact s6 _ _ (Same.new nT _ _ e)⟩
      refine ⟨T, _, rfl, SqT.of upd_same, rfl, _, _, rfl, _, _, rfl, rfl, rfl, ?_⟩
      refine ⟨_, rfl, rfl, _, rfl, ite2 (fun c => ?_) (fun c => ?_)⟩
      · have ec : ff.1 = "block" := V.str.inj (of_decide_eq_true c)
        cases hfl : ff.2 with
        | «at» v =>
          rw [hfl] at fok
          rcases fok with ⟨h, _⟩ | ⟨h, _⟩
          · rw [ec] at h; exact absurd h (by decide)
          · rw [ec] at h; exact absurd h (by decide)
        | blk b =>
          rw [hfl] at hx2 fok
          obtain ⟨e, rfl, hrows⟩ := hx2
          obtain ⟨_, e', he', h8, hr8⟩ := fok
          have : e = e' := Nat.succ.inj he'
          subst this
          have eF := hF e rfl
          subst eF
          have s2G : Same H2 (upd H3 T (.tup [.str ff.1, x2])) := Same.trans smG s5
          refine ⟨_, rfl, x2, ok, kk, _, b, rfl, hrows.to (Keep.fr (Fr.same s2G) fun _ k => k), by omega, hr8, fun H5 v' s6 hv' => ?_⟩
          refine ⟨ys, s6 _ _ hL2, small (by omega), Same.upN (Same.trans s5 s6) nL, ys ++ [v'], upd_same, ?_⟩
          rw [et]
          refine paired_app ?_ (hys2 s6)
          show FlAt _ tupK _ _ v' ff.2
          rw [hfl]
          refine ⟨e, rfl, hv'.to fun x kd zs k e => ?_⟩
          have xL : x ≠ L := fun z => by rw [z, hL2] at k; cases k
          have xl : x ≠ l := fun z => by rw [z, s5 _ _ hlG] at k; cases k
          exact ⟨⟨Same.free (Same.trans sm (Same.trans smG s5)) k, xl, xL⟩, by rw [upd_ne xL]; exact e⟩
      · have ec : ff.1 ≠ "block" := fun h => c (by rw [h]; exact decide_eq_true rfl)
        cases hfl : ff.2 with
        | blk b =>
          rw [hfl] at fok
          exact absurd fok.1 ec
        | «at» v =>
          rw [hfl] at hx2
          refine ⟨_, rfl, ys, hL2, small (by omega), Same.upN s5 nL, ys ++ [x2], upd_same, ?_⟩
          rw [et]
          refine paired_app ?_ (hys2 (Same.refl _))
          show FlAt _ tupK _ _ x2 ff.2
          rw [hfl]
          exact hx2
    · rintro H3 ⟨s4, ys, hL, hys⟩
      rw [List.take_length] at hys
      have ly : ys.length = (flds r).length := paired_len hys
      have one := rf.one
      have hra3 : H3 ra = some (mkO rkd (.str (rowWord r) :: rest)) := s4 _ _ (smG _ _ hra)
      have hl3 : H3 l = some (.lst zs) := s4 _ _ hlG
      -- found.append((row[0],) + tuple(parts))
      refine ⟨_, rfl, .inl ⟨rfl, _, SqL.of hl3⟩, ?_⟩
      refine ⟨_, rfl, rIx_seq (sq_of hra3) (atI_nat (j := 0) rfl) ⟨(by show 1 ≤ sizeLine; decide), fun t1 nt1 => ?_⟩⟩
      have hL4 : (upd H3 t1 (.tup [.str (rowWord r)])) L = some (.lst ys) := Same.new nt1 _ _ hL
      refine ⟨_, rfl, L, ys, rfl, .inl ⟨SqL.of hL4, fun t2 nt2 => ?_⟩⟩
      have ht1 : (upd (upd H3 t1 (.tup [.str (rowWord r)])) t2 (.tup ys)) t1 = some (.tup [.str (rowWord r)]) := Same.new nt2 _ _ upd_same
      have yne : ys ≠ [] := fun e => by rw [e] at ly; simp at ly; omega
      refine ⟨t1, t2, _, ys, rfl, rfl, SqT.of ht1, SqT.of upd_same, smallE (by simp; omega), fun e => (nomatch e), fun _ e => absurd e yne, fun _ _ t3 nt3 => ?_⟩
      have s6 : Same H3 (upd (upd (upd H3 t1 (.tup [.str (rowWord r)])) t2 (.tup ys)) t3 (.tup ([.str (rowWord r)] ++ ys))) := Same.trans (Same.new nt1) (Same.trans (Same.new nt2) (Same.new nt3))
      have h3 : (upd (upd (upd H3 t1 (.tup [.str (rowWord r)])) t2 (.tup ys)) t3 (.tup ([.str (rowWord r)] ++ ys))) t3 = some (.tup (.str (rowWord r) :: ys)) := upd_same
      have n3 : H3 t3 = none := Same.free (Same.trans (Same.new nt1) (Same.new nt2)) nt3
      generalize hG6 : upd (upd (upd H3 t1 _) t2 _) t3 _ = G6 at *
      have sH6 : Same H G6 := Same.trans sm (Same.trans smG (Same.trans s4 s6))
      have lz : zs.length ≤ 24 := by rw [paired_len hzs, List.length_take]; omega
      have n3H : H t3 = none := Same.free (Same.trans sm (Same.trans smG s4)) n3
      have t3l : t3 ≠ l := fun e => by rw [e, hl3] at n3; cases n3
      refine ⟨l, zs, _, rfl, rfl, s6 _ _ hl3, small (by omega), Same.upN sH6 nl, ⟨_, _, _, _, rfl⟩, zs ++ [.ref t3], upd_same, ?_⟩
      have et : rs.take (i + 1) = rs.take i ++ [r] := by rw [List.take_add_one, hr']; rfl
      rw [et]
      refine paired_app ?_ (paired_imp hzs fun v r h => h.to fun x kd ws k e => ⟨k, by rw [upd_ne k.2]; exact s6 _ _ (s4 _ _ (smG _ _ e))⟩)
      refine rowAt_of rok ⟨t3, false, rfl, ⟨n3H, t3l⟩, rfl, by rw [upd_ne t3l]; exact h3⟩ (paired_imp hys fun v f h => h.to fun x kd ws k e => ⟨⟨k.1, k.2.1⟩, by rw [upd_ne k.2.1]; exact s6 _ _ e⟩)
  · rintro σ H1 ⟨sm, ⟨v2, v3, v4, v5, rfl⟩, zs, hl, hzs⟩
    rw [paired_len hxs, List.take_length] at hzs
    refine ⟨_, rfl, l, zs, rfl, .inl ⟨SqL.of hl, fun t nt => ?_⟩⟩
    refine q _ _ (Same.trans sm (Same.new nt)) ⟨zs, ⟨t, false, rfl, Same.free sm nt, rfl, upd_same⟩, paired_imp hzs fun v r h => h.to fun x kd ws k e => ⟨k.1, Same.new nt _ _ e⟩⟩
theorem frozen_ok {f dF : Addr} {fd : FuncData} (F : Fun K "frozen" "frozen" sFrozen f fd) (B : Bl mg) (TF : FldT K w mg dF) (m : mg "frozen" = some (.ref f)) (b : Binds K fd ["rows"] []) :
    ∀ d : Nat, Own P w K mg base (1 + d) "frozen" ["rows"] (spFrozen d)
  | 0 => own_mk F m b (ok_Frozen (k := 0) F B TF (own_mk F m b fn_false) (fun e h => absurd h (by omega)))
  | d + 1 => own_mk F m b (ok_Frozen (k := 1 + d) F B TF (frozen_ok F B TF m b d) (fun e h => by
      have : d = e := by omega
      rw [this]))
end
end Ft
set_option Elab.async false
set_option linter.all false
set_option maxRecDepth 100000
set_option maxHeartbeats 4000000
namespace Ft
open PySem L2
def rowW : Nat → List Int → Row × Nat → List (List Int × Row)
  | 0, path, p => [(path ++ [(p.2 : Int)], p.1)]
  | d + 1, path, p => (path ++ [(p.2 : Int)], p.1) :: (blocks p.1).zipIdx.flatMap fun q => q.1.zipIdx.flatMap (rowW d (path ++ [(p.2 : Int), (q.2 : Int)]))
def walkL (d : Nat) (path : List Int) (rs : List Row) : List (List Int × Row) := rs.zipIdx.flatMap (rowW d path)
/-- what the block q of the row i gives -/
def blkW (d : Nat) (path : List Int) (i : Nat) (q : List Row × Nat) : List (List Int × Row) := match d with
  | 0 => []
  | e + 1 => walkL e (path ++ [(i : Int), (q.2 : Int)]) q.1
theorem rowW_eq {d : Nat} {wi : Bool} {r : Row} (h : RowOk d wi r) (path : List Int) (i : Nat) : rowW d path (r, i) = (path ++ [(i : Int)], r) :: (blocks r).zipIdx.flatMap (blkW d path i) := by
  cases d with
  | zero =>
    cases r with
    | plain w fs => rfl
    | _ => exact h.elim
  | succ d => rfl
def cW : Nat → Nat
  | 0 => 1
  | d + 1 => 1 + 33 * cW d
theorem flat_len {α β : Type} {f : α → List β} {c : Nat} : ∀ {l : List α}, (∀ x ∈ l, (f x).length ≤ c) → (l.flatMap f).length ≤ l.length * c
  | [], _ => by simp
  | x :: l, h => by
    rw [List.flatMap_cons, List.length_append, List.length_cons, Nat.succ_mul]
    have h1 := h x (by simp)
    have h2 := flat_len (l := l) fun y hy => h y (by simp [hy])
    omega
theorem mem_zipIdx_fst {α : Type} {l : List α} {p : α × Nat} (h : p ∈ l.zipIdx) : p.1 ∈ l := by
  obtain ⟨x, i⟩ := p
  exact (List.mem_zipIdx' h).2 ▸ List.getElem_mem _
theorem blk_ok {d : Nat} {wi : Bool} {r : Row} (h : RowOk d wi r) {b : List Row} (hb : b ∈ blocks r) : ∃ e, d = e + 1 ∧ b.length ≤ 11 ∧ ∀ r' ∈ b, RowOk e (wi || decide (rowWord r = "make")) r' := by
  have rf := rowF_of h
  rw [rf.blk] at hb
  obtain ⟨ff, hff, eff⟩ := List.mem_filterMap.mp hb
  have fok := rf.ok ff hff
  cases hfl : ff.2 with
  | «at» v => rw [hfl] at eff; cases eff
  | blk b2 =>
    rw [hfl] at eff fok
    have e2 : b2 = b := Option.some.inj eff
    subst e2
    exact fok.2
theorem blocks_len {d : Nat} {wi : Bool} {r : Row} (h : RowOk d wi r) : (blocks r).length ≤ 3 := by
  rw [(rowF_of h).blk]
  exact Nat.le_trans (List.length_filterMap_le _ _) (rowF_of h).few
theorem rowW_len : ∀ {d : Nat} {wi : Bool} {r : Row}, RowOk d wi r → ∀ (path : List Int) (i : Nat), (rowW d path (r, i)).length ≤ cW d := by
  intro d
  induction d with
  | zero => intro wi r _ path i; exact Nat.le_refl 1
  | succ d ih =>
    intro wi r h path i
    have b3 := blocks_len h
    show (_ :: _ : List (List Int × Row)).length ≤ 1 + 33 * cW d
    rw [List.length_cons]
    have : ((blocks r).zipIdx.flatMap fun q => q.1.zipIdx.flatMap (rowW d (path ++ [(i : Int), (q.2 : Int)]))).length ≤ (blocks r).zipIdx.length * (11 * cW d) := flat_len fun q hq => by
      obtain ⟨e, he, h8, hr⟩ := blk_ok h (mem_zipIdx_fst hq)
      have : d = e := Nat.succ.inj he
      subst this
      have h1 : (q.1.zipIdx.flatMap (rowW d (path ++ [(i : Int), (q.2 : Int)]))).length ≤ q.1.zipIdx.length * cW d := flat_len fun p hp => by
        obtain ⟨r', j⟩ := p
        exact ih (hr r' (mem_zipIdx_fst hp)) _ _
      rw [List.length_zipIdx] at h1
      exact Nat.le_trans h1 (Nat.mul_le_mul_right _ h8)
    rw [List.length_zipIdx] at this
    have h2 : (blocks r).length * (11 * cW d) ≤ 3 * (11 * cW d) := Nat.mul_le_mul_right _ b3
    exact Nat.le_trans (Nat.succ_le_succ (Nat.le_trans this h2)) (by omega)
theorem walkL_len {d n : Nat} {wi : Bool} {rs : List Row} (hl : rs.length ≤ n) (h : ∀ r ∈ rs, RowOk d wi r) (path : List Int) : (walkL d path rs).length ≤ n * cW d := by
  have h1 : (walkL d path rs).length ≤ rs.zipIdx.length * cW d := flat_len fun p hp => by
    obtain ⟨r, i⟩ := p
    exact rowW_len (h r (mem_zipIdx_fst hp)) _ _
  rw [List.length_zipIdx] at h1
  exact Nat.le_trans h1 (Nat.mul_le_mul_right _ hl)
/-- a pair of a path and a row -/
def WAt (ok : Addr → Prop) (kk : Bool → Bool → Prop) (H : Hp) (d : Nat) (v : V) (q : List Int × Row) : Prop := ∃ T pv rv, v = .ref T ∧ H T = some (.tup [pv, rv]) ∧ PathAt H pv q.1 ∧ RowAt ok kk H d rv q.2
structure KT (ok ok' : Addr → Prop) (H H' : Hp) : Prop where
  k : Keep ok ok' H H'
  t : ∀ b xs, H b = some (.tup xs) → H' b = some (.tup xs)
theorem PathAt.to {H H' : Hp} {v : V} {p : List Int} (h : PathAt H v p) (t : ∀ b xs, H b = some (.tup xs) → H' b = some (.tup xs)) : PathAt H' v p := by
  obtain ⟨a, e, h⟩ := h
  exact ⟨a, e, t _ _ h⟩
theorem WAt.to {ok ok' : Addr → Prop} {kk : Bool → Bool → Prop} {H H' : Hp} {d : Nat} {v : V} {q : List Int × Row} (h : WAt ok kk H d v q) (t : KT ok ok' H H') : WAt ok' kk H' d v q := by
  obtain ⟨T, pv, rv, e, hT, hp, hr⟩ := h
  exact ⟨T, pv, rv, e, t.t _ _ hT, hp.to t.t, hr.to t.k⟩
theorem KT.same {ok : Addr → Prop} {H H' : Hp} (s : Same H H') : KT ok ok H H' := ⟨Keep.fr (Fr.same s) fun _ k => k, fun b xs e => s _ _ e⟩
theorem KT.lst {ok ok' : Addr → Prop} {H : Hp} {l : Addr} {xs ys : List V} (hl : H l = some (.lst xs)) (h : ∀ x, ok x → x ≠ l) (h' : ∀ x, ok x → ok' x) : KT ok ok' H (upd H l (.lst ys)) :=
  ⟨fun x kd zs k e => ⟨h' x k, by rw [upd_ne (h x k)]; exact e⟩, fun b zs e => by
    rw [upd_ne (fun z => by rw [z, hl] at e; cases e)]; exact e⟩
theorem KT.trans {o1 o2 o3 : Addr → Prop} {H1 H2 H3 : Hp} (a : KT o1 o2 H1 H2) (b : KT o2 o3 H2 H3) : KT o1 o3 H1 H3 := ⟨a.k.trans b.k, fun x xs e => b.t _ _ (a.t _ _ e)⟩
theorem paired_cat {α β : Type} {R : α → β → Prop} : ∀ {xs : List α} {ys : List β} {xs' : List α} {ys' : List β}, Paired R xs ys → Paired R xs' ys' → Paired R (xs ++ xs') (ys ++ ys')
  | _, _, _, _, .nil, h => h
  | _, _, _, _, .cons r t, h => .cons r (paired_cat t h)
section
variable {P : Program} {w : World} {K : PySem.W.Frag} {mg : Str → Option Value} {base : Heap}
abbrev sWalked : Stmt := topS 24
theorem scWalked : FnScope ["rows", "path", "found", "k", "row", "b", "block"] ["rows", "path"] (defScope sWalked) := ⟨rfl, rfl, rfl, by decide +kernel, rfl, by decide +kernel, by decide +kernel⟩
def spWalked (d : Nat) : Sp := fun vs H Q _ => ∃ (v pv : V) (ok : Addr → Prop) (kk : Bool → Bool → Prop) (wi : Bool) (rs : List Row) (p : List Int), vs = [v, pv] ∧ RowsAt ok kk H d v rs ∧ rs.length ≤ 24 ∧ (∀ r ∈ rs, RowOk d wi r) ∧ d ≤ 3 ∧ PathAt H pv p ∧ p.length + 2 * d ≤ 100 ∧
  ∀ H' l zs, Same H H' → H l = none → H' l = some (.lst zs) → Paired (WAt ok kk H' d) zs (walkL d p rs) → Q (.ref l) H'
theorem ok_Walked {f : Addr} {fd : FuncData} {k d : Nat} {spF : Sp} (F : Fun K "walked" "walked" sWalked f fd) (B : Bl mg) (hk : 1 ≤ k) (gBlocksOf : Own P w K mg base 1 "blocks_of" ["row"] spBlocksOf)
    (gWalked : Own P w K mg base k "walked" ["rows", "path"] spF) (hF : ∀ e, d = e + 1 → spF = spWalked e) : FnOk P w K mg base CX0 (k + 1) f fd ["rows", "path"] (spWalked d) := by
  refine F.ok scWalked (fun vs H Q E h => ?_) (fun cdv A outer s H vs Q E hr h => ?_)
  · obtain ⟨v, pv, ok, kk, wi, rs, p, rfl, _⟩ := h
    rfl
  obtain ⟨v, pv, ok, kk, wi, rs, p, rfl, hrs, hlen, hok, hd3, ⟨pa, rfl, hpa⟩, hpl, q⟩ := h
  refine ⟨_, (pss_cons (ps_set (i := 2) scWalked.nd rfl (by first | exact Or.inl rfl | exact Or.inr rfl) (pe_lst pa_nil))
      (pss_cons (ps_for PassesOwn.never rfl (pi_enumQ (by rfl) B.enumerate (pa_cons (pv 0) pa_nil)) (pg_tup (by rfl) (pgs_cons (pg_name (i := 3) scWalked.nd rfl (by first | exact Or.inl rfl | exact Or.inr rfl)) (pgs_cons (pg_name (i := 4) scWalked.nd rfl (by first | exact Or.inl rfl | exact Or.inr rfl)) pgs_nil))) (pss_cons (ps_expr (pe_bm PySem.F.plainAttrs_list PySem.F.slot_list_append PySem.F.type_list_append mt_append (pv 2) (pa_cons (pe_tup (pa_cons (pe_mid (pe_op op_catA (pv 1) (pe_tup (pa_cons (pv 3) pa_nil)))) (pa_cons (pv 4) pa_nil))) pa_nil)))
      (pss_one (ps_for PassesOwn.never rfl (pi_enumQ (by rfl) B.enumerate (pa_cons (pe_own gBlocksOf (hr.mono (by omega)) (by rfl) (pa_cons (pv 4) pa_nil)) pa_nil)) (pg_tup (by rfl) (pgs_cons (pg_name (i := 5) scWalked.nd rfl (by first | exact Or.inl rfl | exact Or.inr rfl)) (pgs_cons (pg_name (i := 6) scWalked.nd rfl (by first | exact Or.inl rfl | exact Or.inr rfl)) pgs_nil))) (pss_one (ps_expr (pe_bm PySem.F.plainAttrs_list PySem.F.slot_list_extend PySem.F.type_list_extend mt_extend (pv 2) (pa_cons (pe_own gWalked (hr.mono (by omega)) (by rfl) (pa_cons (pv 6) (pa_cons (pe_mid (pe_op op_catA (pv 1) (pe_tup (pa_cons (pv 3) (pa_cons (pv 5) pa_nil))))) pa_nil))) pa_nil))))))))
      (pss_one (ps_ret (pv 2))))), ?_⟩
  have c3 : cW d ≤ 37060 := by
    have : cW 3 = 37060 := by decide
    have h4 : d = 0 ∨ d = 1 ∨ d = 2 ∨ d = 3 := by omega
    rcases h4 with e | e | e | e <;> subst e <;> decide
  refine ⟨Nat.zero_le _, fun l nl => ?_⟩
  have s0 : Same H (upd H l (.lst [])) := Same.new nl
  have hrs2 : RowsAt (fun x => ok x ∧ x ≠ l) kk H d v rs := hrs.to (Keep.mono fun x k hx => ⟨k, fun e => hx (by rw [e]; exact nl)⟩)
  obtain ⟨xs, ⟨a, kd, rfl, oka, kka, ha⟩, hxs⟩ := hrs2
  refine ⟨_, rfl, a, kd, xs, rfl, sq_of (s0 _ _ ha), ?_⟩
  refine for_it walk_enumQ (fun i σ H' => Same H H' ∧ (∃ v3 v4 v5 v6, σ = [some (.ref a), some (.ref pa), some (.ref l), v3, v4, v5, v6]) ∧ ∃ zs, H' l = some (.lst zs) ∧ Paired (WAt (fun x => ok x ∧ x ≠ l) kk H' d) zs ((rs.zipIdx.take i).flatMap (rowW d p)))
    ⟨s0, ⟨none, none, none, none, rfl⟩, [], upd_same, .nil⟩ (fun i σ H' _ ⟨sm, _⟩ => sq_of (sm _ _ ha)) ?_ ?_
  · rintro i x σ H1 H2 hi ⟨sm, ⟨v3, v4, v5, v6, rfl⟩, zs, hl, hzs⟩ ⟨T, x1, x2, rfl, nT, rfl, e1, e2⟩
    have e1' : x1 = .int (i : Nat) := (Option.some.inj e1).symm
    subst e1'
    obtain ⟨r, hr', hrow⟩ := paired_get hxs e2
    have rok := hok r (List.mem_of_getElem? hr')
    have b3 := blocks_len rok
    have s2 : Same H1 (upd H1 T (.tup [.int (i : Nat), x2])) := Same.new nT
    refine ⟨T, _, rfl, SqT.of upd_same, rfl, _, _, rfl, _, _, rfl, rfl, ?_⟩
    have lz : zs.length ≤ 24 * cW d := by
      rw [paired_len hzs]
      have h1 : ((rs.zipIdx.take i).flatMap (rowW d p)).length ≤ (rs.zipIdx.take i).length * cW d := flat_len fun q hq => by
        obtain ⟨r', j⟩ := q
        exact rowW_len (hok r' (mem_zipIdx_fst (List.mem_of_mem_take hq))) _ _
      have h2 : (rs.zipIdx.take i).length ≤ 24 := by rw [List.length_take, List.length_zipIdx]; omega
      exact Nat.le_trans h1 (Nat.mul_le_mul_right _ h2)
    generalize hG : upd H1 T _ = G at *
    have sG : Same H G := Same.trans sm s2
    have hlG : G l = some (.lst zs) := s2 _ _ hl
    have hzsG := paired_imp hzs fun v q h => WAt.to h (KT.same s2)
    -- found.append((path + (k,), row))
    refine ⟨_, rfl, .inl ⟨rfl, _, SqL.of hlG⟩, ⟨fun v H' => ∃ b, v = .ref b ∧ H' b = some (.tup ((p ++ [(i : Int)]).map V.int)) ∧ Same G H', ?_, ?_⟩⟩
    · refine ⟨_, rfl, _, rfl, (by show 1 ≤ sizeLine; decide), fun t1 nt1 => ?_⟩
      refine ⟨pa, t1, p.map V.int, [.int (i : Nat)], rfl, rfl, SqT.of (Same.new nt1 _ _ (sG _ _ hpa)), SqT.of upd_same, smallE (by rw [List.length_map]; simp; omega), fun e => ?_, fun _ e => (nomatch e), fun _ _ t2 nt2 => ?_⟩
      · have ep : p = [] := List.map_eq_nil_iff.mp e
        subst ep
        exact ⟨t1, rfl, upd_same, Same.new nt1⟩
      · exact ⟨t2, rfl, by rw [upd_same, List.map_append]; rfl, Same.trans (Same.new nt1) (Same.new nt2)⟩
    rintro hv G1 ⟨hb, rfl, hhb, s3⟩
    refine ⟨_, rfl, (by show 2 ≤ sizeLine; decide), fun t3 nt3 => ?_⟩
    have s4 : Same G (upd G1 t3 (.tup [.ref hb, x2])) := Same.trans s3 (Same.new nt3)
    have hhb4 : (upd G1 t3 (.tup [.ref hb, x2])) hb = some (.tup ((p ++ [(i : Int)]).map V.int)) := Same.new nt3 _ _ hhb
    have ht3 : (upd G1 t3 (.tup [.ref hb, x2])) t3 = some (.tup [.ref hb, x2]) := upd_same
    generalize hG2 : upd G1 t3 _ = G2 at *
    have sG2 : Same H G2 := Same.trans sG s4
    have hl2 : G2 l = some (.lst zs) := s4 _ _ hlG
    refine ⟨l, zs, _, rfl, rfl, hl2, small (by omega), ?_⟩
    have kt2 : KT (fun x => ok x ∧ x ≠ l) (fun x => ok x ∧ x ≠ l) G2 (upd G2 l (.lst (zs ++ [.ref t3]))) := KT.lst hl2 (fun x k => k.2) fun x k => k
    have w3 : WAt (fun x => ok x ∧ x ≠ l) kk G2 d (.ref t3) (p ++ [(i : Int)], r) := ⟨t3, _, _, rfl, ht3, ⟨hb, rfl, hhb4⟩, hrow.to (Keep.fr (Fr.same sG2) fun _ k => k)⟩
    have hzs3 : Paired (WAt (fun x => ok x ∧ x ≠ l) kk (upd G2 l (.lst (zs ++ [.ref t3]))) d) (zs ++ [.ref t3]) ((rs.zipIdx.take i).flatMap (rowW d p) ++ [(p ++ [(i : Int)], r)]) :=
      paired_app (w3.to kt2) (paired_imp hzsG fun v q h => (h.to (KT.same s4)).to kt2)
    have hl3 : (upd G2 l (.lst (zs ++ [.ref t3]))) l = some (.lst (zs ++ [.ref t3])) := upd_same
    have sG3 : Same H (upd G2 l (.lst (zs ++ [.ref t3]))) := Same.upN sG2 nl
    generalize hG3 : upd G2 l _ = G3 at *
    -- the blocks
    have hrow3 : RowAt (fun x => ok x ∧ x ≠ l) kk G3 d x2 r := hrow.to (Keep.fr (Fr.same sG3) fun _ k => k)
    refine ⟨_, rfl, x2, (fun x => ok x ∧ x ≠ l), kk, d, wi, r, rfl, rok, hrow3, fun G4 bl ys s5 nb hbl hys => ?_⟩
    have lb : ys.length ≤ 3 := by rw [paired_len hys]; exact b3
    have lbl : bl ≠ l := fun e => by rw [e, hl3] at nb; cases nb
    refine ⟨bl, true, ys, rfl, sq_of hbl, ?_⟩
    have sG4 : Same H G4 := Same.trans sG3 s5
    refine for_it walk_enumQ (fun j σ H' => Same H H' ∧ H' bl = some (.lst ys) ∧ (∀ b xs, G3 b = some (.tup xs) → H' b = some (.tup xs)) ∧ (∃ v5 v6, σ = [some (.ref a), some (.ref pa), some (.ref l), some (.int (i : Nat)), some x2, v5, v6]) ∧
        ∃ zs, H' l = some (.lst zs) ∧ Paired (WAt (fun x => ok x ∧ x ≠ l) kk H' d) zs ((rs.zipIdx.take i).flatMap (rowW d p) ++ [(p ++ [(i : Int)], r)] ++ ((blocks r).zipIdx.take j).flatMap (blkW d p i)) ∧ Keep (fun x => ok x ∧ x ≠ l) (fun x => ok x ∧ x ≠ l) G3 H')
      ⟨sG4, hbl, fun b xs e => s5 _ _ e, ⟨v5, v6, rfl⟩, zs ++ [.ref t3], s5 _ _ hl3, ?_, Keep.fr (Fr.same s5) fun _ k => k⟩ (fun j σ H' _ ⟨_, h, _⟩ => sq_of (kd := true) h) ?_ ?_
    · rw [List.take_zero, List.flatMap_nil, List.append_nil]
      exact paired_imp hzs3 fun v q h => h.to (KT.same s5)
    · rintro j y σ H3 H4 hj ⟨sm4, hbl4, htup4, ⟨w5, w6, rfl⟩, zs4, hl4, hzs4, kp4⟩ ⟨T2, y1, y2, rfl, nT2, rfl, f1, f2⟩
      have f1' : y1 = .int (j : Nat) := (Option.some.inj f1).symm
      subst f1'
      obtain ⟨b, hb', e, rfl, hrows⟩ := paired_get hys f2
      have eF := hF e rfl
      subst eF
      obtain ⟨e', he', h8, hr8⟩ := blk_ok rok (List.mem_of_getElem? hb')
      have ee : e = e' := Nat.succ.inj he'
      subst ee
      have s6 : Same H3 (upd H3 T2 (.tup [.int (j : Nat), y2])) := Same.new nT2
      refine ⟨T2, _, rfl, SqT.of upd_same, rfl, _, _, rfl, _, _, rfl, rfl, ?_⟩
      generalize hG5 : upd H3 T2 _ = G5 at *
      have hl5 : G5 l = some (.lst zs4) := s6 _ _ hl4
      have sH5 : Same H G5 := Same.trans sm4 s6
      refine ⟨_, rfl, .inl ⟨rfl, _, SqL.of hl5⟩, _, rfl, ⟨fun v H' => ∃ c, v = .ref c ∧ H' c = some (.tup ((p ++ [(i : Int), (j : Int)]).map V.int)) ∧ Same G5 H', ?_, ?_⟩⟩
      · refine ⟨_, rfl, _, rfl, _, rfl, (by show 2 ≤ sizeLine; decide), fun t1 nt1 => ?_⟩
        refine ⟨pa, t1, p.map V.int, [.int (i : Nat), .int (j : Nat)], rfl, rfl, SqT.of (Same.new nt1 _ _ (sH5 _ _ hpa)), SqT.of upd_same, smallE (by rw [List.length_map]; simp; omega), fun e => ?_, fun _ e => (nomatch e), fun _ _ t2 nt2 => ?_⟩
        · have ep : p = [] := List.map_eq_nil_iff.mp e
          subst ep
          exact ⟨t1, rfl, upd_same, Same.new nt1⟩
        · exact ⟨t2, rfl, by rw [upd_same, List.map_append]; rfl, Same.trans (Same.new nt1) (Same.new nt2)⟩
      rintro cv G6 ⟨c, rfl, hc, s7⟩
      have s36 : Same H3 G6 := Same.trans s6 s7
      have hrows6 : RowsAt (fun x => ok x ∧ x ≠ l) kk G6 e y2 b := hrows.to (kp4.trans (Keep.fr (Fr.same s36) fun _ k => k))
      refine ⟨y2, .ref c, (fun x => ok x ∧ x ≠ l), kk, _, b, p ++ [(i : Int), (j : Int)], rfl, hrows6, by omega, hr8, by omega, ⟨c, rfl, hc⟩, by simp; omega, fun G7 l2 zs2 s8 nl2 hl2' hzs2 => ?_⟩
      have hl7 : G7 l = some (.lst zs4) := s8 _ _ (s7 _ _ hl5)
      have s37 : Same H3 G7 := Same.trans s36 s8
      have ce : 33 * cW e ≤ cW (e + 1) := by
        have : cW (e + 1) = 1 + 33 * cW e := rfl
        omega
      have lz2 : zs2.length ≤ 11 * cW e := by rw [paired_len hzs2]; exact walkL_len h8 hr8 _
      have lz4 : zs4.length ≤ 24 * cW (e + 1) + 1 + 3 * (11 * cW e) := by
        rw [paired_len hzs4, List.length_append, List.length_append, List.length_singleton]
        have h1 : ((rs.zipIdx.take i).flatMap (rowW (e + 1) p)).length ≤ 24 * cW (e + 1) := by rw [← paired_len hzs]; exact lz
        have h2 : (((blocks r).zipIdx.take j).flatMap (blkW (e + 1) p i)).length ≤ ((blocks r).zipIdx.take j).length * (11 * cW e) := flat_len fun q hq => by
          obtain ⟨e2, he2, h82, hr82⟩ := blk_ok rok (mem_zipIdx_fst (List.mem_of_mem_take hq))
          have ee2 : e = e2 := Nat.succ.inj he2
          subst ee2
          exact walkL_len h82 hr82 _
        have h3 : ((blocks r).zipIdx.take j).length ≤ 3 := by rw [List.length_take, List.length_zipIdx]; omega
        have h4 := Nat.mul_le_mul_right (11 * cW e) h3
        omega
      refine ⟨l, l2, zs4, zs2, rfl, rfl, hl7, hl2', smallE (by omega), ?_⟩
      have kt7 : KT (fun x => ok x ∧ x ≠ l) (fun x => ok x ∧ x ≠ l) G7 (upd G7 l (.lst (zs4 ++ zs2))) := KT.lst hl7 (fun x k => k.2) fun x k => k
      refine ⟨Same.upN (Same.trans sm4 s37) nl, ?_, fun b xs e => kt7.t _ _ (s37 _ _ (htup4 _ _ e)), ⟨_, _, rfl⟩, zs4 ++ zs2, upd_same, ?_, (kp4.trans (Keep.fr (Fr.same s37) fun _ k => k)).trans kt7.k⟩
      · rw [upd_ne lbl]
        exact s37 _ _ hbl4
      · have ez : (blocks r).zipIdx[j]? = some (b, j) := by rw [List.getElem?_zipIdx, hb']; simp
        rw [List.take_add_one, ez, List.flatMap_append, ← List.append_assoc]
        refine paired_cat (paired_imp hzs4 fun v q h => (h.to (KT.same s37)).to kt7) ?_
        rw [show ((some (b, j) : Option (List Row × Nat)).toList.flatMap (blkW (e + 1) p i)) = walkL e (p ++ [(i : Int), (j : Int)]) b by
          show List.flatMap (blkW (e + 1) p i) [(b, j)] = _
          rw [List.flatMap_cons, List.flatMap_nil, List.append_nil]
          rfl]
        exact paired_imp hzs2 fun v q h => by
          obtain ⟨T', pv', rv', e1', e2', e3', e4'⟩ := h
          exact (show WAt (fun x => ok x ∧ x ≠ l) kk G7 (e + 1) v q from ⟨T', pv', rv', e1', e2', e3', rowAt_mono _ _ _ e4'⟩).to kt7
    · rintro σ H3 ⟨sm4, hbl4, htup4, ⟨w5, w6, rfl⟩, zs4, hl4, hzs4, kp4⟩
      refine ⟨sm4, ⟨_, _, _, _, rfl⟩, zs4, hl4, ?_⟩
      have ly : ys.length = (blocks r).length := paired_len hys
      have ez : rs.zipIdx[i]? = some (r, i) := by rw [List.getElem?_zipIdx, hr']; simp
      rw [List.take_add_one, ez, List.flatMap_append]
      rw [show ((some (r, i) : Option (Row × Nat)).toList.flatMap (rowW d p)) = (p ++ [(i : Int)], r) :: (blocks r).zipIdx.flatMap (blkW d p i) by
        show List.flatMap (rowW d p) [(r, i)] = _
        rw [List.flatMap_cons, List.flatMap_nil, List.append_nil, rowW_eq rok]]
      have et : (blocks r).zipIdx.take ys.length = (blocks r).zipIdx := List.take_of_length_le (by rw [List.length_zipIdx]; omega)
      rw [et, List.append_assoc] at hzs4
      exact hzs4
  · rintro σ H1 ⟨sm, ⟨v3, v4, v5, v6, rfl⟩, zs, hl, hzs⟩
    have et : rs.zipIdx.take xs.length = rs.zipIdx := List.take_of_length_le (by rw [List.length_zipIdx, paired_len hxs]; omega)
    rw [et] at hzs
    exact ⟨_, rfl, q _ l zs sm nl hl (paired_imp hzs fun v q h => h.to ⟨Keep.mono fun x k _ => k.1, fun b xs e => e⟩)⟩
theorem walked_ok {f : Addr} {fd : FuncData} (F : Fun K "walked" "walked" sWalked f fd) (B : Bl mg) (m : mg "walked" = some (.ref f)) (b : Binds K fd ["rows", "path"] []) (gBlocksOf : Own P w K mg base 1 "blocks_of" ["row"] spBlocksOf) :
    ∀ d : Nat, Own P w K mg base (2 + d) "walked" ["rows", "path"] (spWalked d)
  | 0 => own_mk F m b (ok_Walked (k := 1) F B (by omega) gBlocksOf (own_mk F m b fn_false) (fun e h => absurd h (by omega)))
  | d + 1 => own_mk F m b (ok_Walked (k := 2 + d) F B (by omega) gBlocksOf (walked_ok F B m b gBlocksOf d) (fun e h => by
      have : d = e := by omega
      rw [this]))
end
end Ft
set_option Elab.async false
set_option linter.all false
set_option maxRecDepth 100000
set_option maxHeartbeats 4000000
namespace Ft
open PySem L2
theorem dc_it {J : It} {n : Nat} {G : Hp → Prop} {Y : Nat → Hp → V → Hp → Prop} (w : Walk J n G Y) {g : TG} {tt : TT} {tk tv : TE} {vs : List Nat} {σ : L2.St} {H1 : Hp} {D : Addr} {Qd : Hp → Prop} (Pv : Nat → Hp → Prop) (h0 : Pv 0 (upd H1 D (.dK []))) (hG : ∀ i H, i ≤ n → Pv i H → G H)
    (hs : ∀ i x H H', i < n → Pv i H → Y i H x H' → g x (wipe σ vs) H' fun σ2 H2 => wipe σ2 vs = wipe σ vs ∧ tt σ2 H2 fun b H3 =>
      if b = true then tk σ2 H3 fun y H4 => tv σ2 H4 fun z H5 => ∃ kvs k, y = kV k ∧ H5 D = some (.dK kvs) ∧ kvs.length < sizeLine ∧ Pv (i + 1) (upd H5 D (.dK (putK kvs k z))) else Pv (i + 1) H3) (hd : ∀ H, Pv n H → Qd H) :
    ∃ W : Nat → Nat → Hp → Prop, (∃ m, W 0 m (upd H1 D (.dK []))) ∧ ∀ i m H, W i m H →
      (J.stop i H ∧ Qd H) ∨ (J.go i H ∧ ∃ Nx : Hp → Prop, (∀ H', Nx H' → ∃ m', m' < m ∧ W (i + 1) m' H') ∧ ∀ x H', J.yld i H x H' → g x (wipe σ vs) H' fun σ2 H2 => wipe σ2 vs = wipe σ vs ∧ tt σ2 H2 fun b H3 =>
        if b = true then tk σ2 H3 fun y H4 => tv σ2 H4 fun z H5 => ∃ kvs k, y = kV k ∧ H5 D = some (.dK kvs) ∧ kvs.length < sizeLine ∧ Nx (upd H5 D (.dK (putK kvs k z))) else Nx H3) := by
  refine ⟨fun i m H => m = n - i ∧ i ≤ n ∧ Pv i H, ⟨n, by simp, Nat.zero_le _, h0⟩, ?_⟩
  rintro i m H ⟨rfl, hi, p⟩
  have q := hG i H hi p
  by_cases hlt : i < n
  · refine .inr ⟨w.goes i H hlt q, Pv (i + 1), fun H' p' => ⟨n - (i + 1), by omega, rfl, hlt, p'⟩, fun x H' y => hs i x H H' hlt p (w.yields i H x H' hlt q y)⟩
  · have e : i = n := by omega
    subst e
    exact .inl ⟨w.stops H q, hd H p⟩
def isImp (r : Row) : Bool := decide (rowWord r = "load") || decide (rowWord r = "pick")
def spotsM (m : Str × List Row) : List (Str × List Int) := ((walkL 3 [] m.2).filter fun q => isImp q.2).map fun q => (m.1, q.1)
def spotsL (lib : Lib) : List (Str × List Int) := lib.flatMap spotsM
def SpotAt (H : Hp) (v : V) (q : Str × List Int) : Prop := ∃ T pv, v = .ref T ∧ H T = some (.tup [.str q.1, pv]) ∧ PathAt H pv q.2
theorem SpotAt.to {H H' : Hp} {v : V} {q : Str × List Int} (h : SpotAt H v q) (t : ∀ b xs, H b = some (.tup xs) → H' b = some (.tup xs)) : SpotAt H' v q := by
  obtain ⟨T, pv, e, hT, hp⟩ := h
  exact ⟨T, pv, e, t _ _ hT, hp.to t⟩
theorem lib_perm {ys ks : List Str} (h : ys.Perm ks) : ∀ lib : Lib, lib.map (·.1) = ks → ∃ rest : Lib, rest.map (·.1) = ys ∧ rest.Perm lib := by
  induction h with
  | nil => intro lib e; exact ⟨[], rfl, by rw [List.map_eq_nil_iff.mp e]⟩
  | cons x h ih =>
    intro lib e
    cases lib with
    | nil => cases e
    | cons m lib =>
      rw [List.map_cons] at e
      obtain ⟨rest, h1, h2⟩ := ih lib (List.cons.inj e).2
      exact ⟨m :: rest, by rw [List.map_cons, h1, (List.cons.inj e).1], h2.cons m⟩
  | swap x y l =>
    intro lib e
    cases lib with
    | nil => cases e
    | cons m lib =>
      cases lib with
      | nil => cases (List.cons.inj e).2
      | cons m2 lib =>
        rw [List.map_cons, List.map_cons] at e
        have e1 := (List.cons.inj e).1
        have e2 := (List.cons.inj (List.cons.inj e).2).1
        have e3 := (List.cons.inj (List.cons.inj e).2).2
        exact ⟨m2 :: m :: lib, by rw [List.map_cons, List.map_cons, e1, e2, e3], List.Perm.swap m m2 lib⟩
  | trans _ _ ih1 ih2 =>
    intro lib e
    obtain ⟨r2, h3, h4⟩ := ih2 lib e
    obtain ⟨r1, h5, h6⟩ := ih1 r2 h3
    exact ⟨r1, h5, h6.trans h4⟩
theorem libR_perm {lib lib' : Lib} (h : lib'.Perm lib) (l : LibR lib) : LibR lib' where
  few := by rw [h.length_eq]; exact l.few
  pos := by rw [h.length_eq]; exact l.pos
  nd := (h.map (·.1)).nodup_iff.mpr l.nd
  word := fun m hm => l.word m (h.mem_iff.mp hm)
  len := fun m hm => l.len m (h.mem_iff.mp hm)
  rows := fun m hm => l.rows m (h.mem_iff.mp hm)
theorem putL_newL {lib : Lib} {z : Str} {rs : List Row} (h : z ∉ lib.map (·.1)) : putL lib z rs = lib ++ [(z, rs)] := by
  unfold putL
  rw [if_neg]
  intro e
  obtain ⟨m, hm, q⟩ := List.any_eq_true.mp e
  exact h (List.mem_map.mpr ⟨m, hm, of_decide_eq_true q⟩)
theorem valV_at {kvs : List (Key × V)} {i : Nat} {k : Key} {v : V} (hn : (kvs.map (·.1)).Nodup) (h : kvs[i]? = some (k, v)) : valV kvs k = some v := by
  induction kvs generalizing i with
  | nil => simp at h
  | cons kv kvs ih =>
    rw [List.map_cons, List.nodup_cons] at hn
    cases i with
    | zero =>
      have e : kv = (k, v) := Option.some.inj h
      subst e
      unfold valV
      rw [List.find?_cons_of_pos (p := fun kv : Key × V => decide (kv.1 = k)) (by exact decide_eq_true rfl)]
      rfl
    | succ i =>
      have h' : kvs[i]? = some (k, v) := h
      have := ih hn.2 h'
      have ne : ¬ kv.1 = k := fun e => hn.1 (by rw [e]; exact List.mem_map.mpr ⟨_, List.mem_of_getElem? h', rfl⟩)
      unfold valV at this ⊢
      rw [List.find?_cons_of_neg (by rw [decide_eq_false ne]; exact Bool.false_ne_true)]
      exact this
theorem libAt_nd {ok : Addr → Prop} {kk : Bool → Bool → Prop} {H : Hp} {kvs : List (Key × V)} {lib : Lib} (h : LibAt ok kk H kvs lib) (hn : (lib.map (·.1)).Nodup) : (kvs.map (·.1)).Nodup := by
  rw [libAt_keys h]
  have go : ∀ l : List Str, l.Nodup → (l.map (Sum.inr : Str → Key)).Nodup := by
    intro l hl
    induction l with
    | nil => simp
    | cons x l ih =>
      rw [List.nodup_cons] at hl
      rw [List.map_cons, List.nodup_cons]
      refine ⟨fun hm => ?_, ih hl.2⟩
      obtain ⟨y, hy, e⟩ := List.mem_map.mp hm
      rw [Sum.inr.inj e] at hy
      exact hl.1 hy
  exact go _ hn
theorem putF_spots (r v : V) : putF "spots" v [(("rows_of" : Str), r)] = [(("rows_of" : Str), r), ("spots", v)] := by
  unfold putF
  rw [if_neg (by decide)]
  rfl
theorem lk_rows (r v : V) : List.lookup ("rows_of" : Str) [(("rows_of" : Str), r), ("spots", v)] = some r := by simp [List.lookup]
theorem lk_spots (r v : V) : List.lookup ("spots" : Str) [(("rows_of" : Str), r), ("spots", v)] = some v := by
  have : (("spots" : Str) == "rows_of") = false := by decide
  simp [List.lookup, this]
def loadPick : List V := [.str "load", .str "pick"]
theorem inV_imp (r : Row) : inV (.str (rowWord r)) loadPick = isImp r := by
  show (eqV (.str "load") (.str (rowWord r)) || (eqV (.str "pick") (.str (rowWord r)) || false)) = _
  rw [Bool.or_false]
  have h1 : ∀ a b : Str, eqV (.str a) (.str b) = decide (b = a) := fun a b => by
    show (a == b) = _
    by_cases e : b = a
    · rw [e]; simp
    · have e' : ¬ a = b := fun h => e h.symm
      simp [e, e']
  rw [h1, h1]
  rfl
theorem rowAt_head {ok : Addr → Prop} {kk : Bool → Bool → Prop} {H : Hp} {v : V} {r : Row} : ∀ {d : Nat}, RowAt ok kk H d v r → ∃ a kd rest, v = .ref a ∧ kk false kd ∧ H a = some (mkO kd (.str (rowWord r) :: rest)) := by
  intro d h
  have g : ∀ {xs : List V}, At ok (kk false) H v (.str (rowWord r) :: xs) → ∃ a kd rest, v = .ref a ∧ kk false kd ∧ H a = some (mkO kd (.str (rowWord r) :: rest)) := fun h => by
    obtain ⟨a, kd, e, _, k, m⟩ := h
    exact ⟨a, kd, _, e, k, m⟩
  cases d with
  | zero =>
    cases r with
    | plain w fs => exact g h
    | _ => exact h.elim
  | succ d =>
    cases r with
    | plain w fs => exact g h
    | make n b =>
      obtain ⟨vb, xs, h1, _⟩ := h
      exact g h1
    | when n b c =>
      obtain ⟨vb, xs, vc, ys, h1, _⟩ := h
      exact g h1
    | try_ b c =>
      obtain ⟨vb, xs, vc, ys, h1, _⟩ := h
      exact g h1
/-- what is known of the class Program -/
structure PCls (K : PySem.W.Frag) (mg : Str → Option Value) (C : Addr) : Prop where
  g : mg "Program" = some (.ref C)
  cl : Cls K C
  nR : NoAttr K C "rows_of"
  nS : NoAttr K C "spots"
section
variable {P : Program} {w : World} {K : PySem.W.Frag} {mg : Str → Option Value} {base : Heap}
abbrev sProgramInit : Stmt := inClass (topS 32) 0
theorem scProgramInit : FnScope ["self", "modules", "word", "rows", "path", "row"] ["self", "modules"] (defScope sProgramInit) := ⟨rfl, rfl, rfl, by decide +kernel, rfl, by decide +kernel, by decide +kernel⟩
/-- a Program at x: its rows, its places -/
structure ProgAt (ok : Addr → Prop) (H : Hp) (C x dx rd sl : Addr) (lib : Lib) : Prop where
  ins : H x = some (.ins C dx [("rows_of", .ref rd), ("spots", .ref sl)])
  rows : ∃ kvs, H rd = some (.dK kvs) ∧ LibAt ok tupK H kvs lib
  spots : ∃ zs, H sl = some (.lst zs) ∧ Paired (SpotAt H) zs (spotsL lib)
def spProgramInit (C : Addr) : Sp := fun vs H Q _ => ∃ (x dx dm : Addr) (kvs : List (Key × V)) (lib : Lib) (ok : Addr → Prop) (kk : Bool → Bool → Prop), vs = [.ref x, .ref dm] ∧ H x = some (.ins C dx []) ∧ H dm = some (.dK kvs) ∧ LibAt ok kk H kvs lib ∧ ¬ ok x ∧ LibR lib ∧
  ∀ H' rd sl lib2, Fr (· ≠ x) H H' → ProgAt (fun y => H y = none) H' C x dx rd sl lib2 → lib2.Perm lib → PyProof.Rows.sortedS (lib2.map (·.1)) = true → H rd = none → H sl = none → Q .non H'
theorem ok_ProgramInit {f C : Addr} {fd : FuncData} {k : Nat} (F : Fun K "__init__" "Program.__init__" sProgramInit f fd) (B : Bl mg) (PC : PCls K mg C) (hk : 9 ≤ k) (gCheckModules : Own P w K mg base 9 "check_modules" ["modules"] spCheckModules)
    (gFrozen : Own P w K mg base 4 "frozen" ["rows"] (spFrozen 3)) (gWalked : Own P w K mg base 5 "walked" ["rows", "path"] (spWalked 3)) : FnOk P w K mg base CX0 (k + 1) f fd ["self", "modules"] (spProgramInit C) := by
  refine F.ok scProgramInit (fun vs H Q E h => ?_) (fun cdv A outer s H vs Q E hr h => ?_)
  · obtain ⟨x, dx, dm, kvs, lib, ok, kk, rfl, _⟩ := h
    rfl
  obtain ⟨x, dx, dm, kvs, lib, ok, kk, rfl, hx, hdm, hlib, okx, lr, q⟩ := h
  refine ⟨_, (pss_cons (ps_expr (pe_own gCheckModules (hr.mono (by omega)) (by rfl) (pa_cons (pv 1) pa_nil)))
      (pss_cons (ps_fld (pv 0) (pe_dc (own := [("word", 2)]) (g := (gName 2)) (tt := tYes) (by rfl) scProgramInit.nd (pi_list (pe_callB (call_sortedD rfl) (by rfl) B.sorted (by decide +kernel) (pa_cons (pv 1) pa_nil))) (blkOk_by (own := [("word", 2)]) (N := ["self", "modules", "word", "rows", "path", "row"]) (sc := defScope sProgramInit) (by decide +kernel)) (fun _ _ _ _ _ => (pg_name (i := 2) scProgramInit.nd rfl (by first | exact Or.inl rfl | exact Or.inr rfl))) (fun _ _ _ _ _ => pts_nil) (fun _ _ _ _ _ => (pv 2)) (fun _ _ _ _ _ => (pe_own gFrozen (hr.mono (by omega)) (by rfl) (pa_cons (pe_dget (hu_of hr) (pv 1) (pv 2) (fun _ _ => rfl)) pa_nil)))) rfl)
      (pss_cons (ps_fld (pv 0) (pe_lst pa_nil) rfl)
      (pss_one (ps_lock (ps_for PassesOwn.never rfl (pi_keys (pe_fld (pv 0) rfl)) (pg_name (i := 2) scProgramInit.nd rfl (by first | exact Or.inl rfl | exact Or.inr rfl)) (pss_cons (ps_set (i := 3) scProgramInit.nd rfl (by first | exact Or.inl rfl | exact Or.inr rfl) (pe_own gWalked (hr.mono (by omega)) (by rfl) (pa_cons (pe_dget (hu_of hr) (pe_fld (pv 0) rfl) (pv 2) (fun _ _ => rfl)) (pa_cons (pe_tup pa_nil) pa_nil))))
      (pss_one (ps_expr (pe_bm PySem.F.plainAttrs_list PySem.F.slot_list_extend PySem.F.type_list_extend mt_extend (pe_fld (pv 0) rfl) (pa_cons (pe_lc (own := [("path", 4), ("row", 5)]) (g := (gTup _ 2 (gCons (gName 4) (gCons (gName 5) gNil)))) (by rfl) scProgramInit.nd (pi_list (pv 3)) (blkOk_by (own := [("path", 4), ("row", 5)]) (N := ["self", "modules", "word", "rows", "path", "row"]) (sc := defScope sProgramInit) (by decide +kernel)) (fun _ _ _ _ _ => (pg_tup (by rfl) (pgs_cons (pg_name (i := 4) scProgramInit.nd rfl (by first | exact Or.inl rfl | exact Or.inr rfl)) (pgs_cons (pg_name (i := 5) scProgramInit.nd rfl (by first | exact Or.inl rfl | exact Or.inr rfl)) pgs_nil)))) (fun _ _ _ _ _ => (pts_one (pt_cmpR (opK (K := K) (fun K => rIn K false) op_in_seq rfl) (pe_ix (ixK (K := K) rIxT ix_tup rfl) (pv 5) pe_int (fun _ _ => rfl)) (pe_tup (pa_cons pe_str (pa_cons pe_str pa_nil))) (by rfl)))) (fun _ _ _ _ _ => (pe_tup (pa_cons (pv 2) (pa_cons (pv 4) pa_nil))))) pa_nil))))))))))), ?_⟩
  have few := lr.few
  have hkeys := libAt_keys hlib
  refine ⟨_, rfl, dm, kvs, lib, ok, kk, rfl, hdm, hlib, lr, fun H1 s1 => ?_⟩
  have hdm1 : H1 dm = some (.dK kvs) := s1 _ _ hdm
  refine ⟨_, rfl, dm, kvs, lib.map (·.1), rfl, .inl hdm1, hkeys, by rw [List.length_map]; omega, fun ys l0 hperm hsort nl0 => ?_⟩
  have s2 : Same H (upd H1 l0 (.lst (ys.map V.str))) := Same.trans s1 (Same.new nl0)
  have hl0 : (upd H1 l0 (.lst (ys.map V.str))) l0 = some (.lst (ys.map V.str)) := upd_same
  generalize hG : upd H1 l0 _ = G at *
  obtain ⟨lib2, e2, p2⟩ := lib_perm hperm lib rfl
  have lr2 := libR_perm p2 lr
  have lylen : ys.length = lib2.length := by rw [← e2, List.length_map]
  refine ⟨l0, rfl, ⟨_, SqL.of hl0⟩, fun D nD => ?_⟩
  have nDH : H D = none := Same.free s2 nD
  have Dx : D ≠ x := fun e => by rw [e, hx] at nDH; cases nDH
  refine dc_it (walk_list (xs := ys.map V.str)) (fun i H' => Same G H' ∧ ∃ kvs', H' D = some (.dK kvs') ∧ LibAt (fun y => H y = none ∧ y ≠ D) tupK H' kvs' (lib2.take i))
    ⟨Same.new nD, [], upd_same, .nil⟩ (fun i H' _ ⟨sm, _⟩ => SqL.of (sm _ _ hl0)) ?_ ?_
  · rintro i x' H2 H3 hi ⟨s3, kvs', hD, hl⟩ ⟨rfl, hx'⟩
    obtain ⟨⟨z, rs⟩, hm, rfl⟩ : ∃ m : Str × List Row, lib2[i]? = some m ∧ x' = .str m.1 := by
      rw [← e2, List.getElem?_map, List.getElem?_map] at hx'
      cases e : lib2[i]? with
      | none => rw [e] at hx'; cases hx'
      | some m => rw [e] at hx'; exact ⟨m, rfl, (Option.some.inj hx').symm⟩
    have s4 : Same H H3 := Same.trans s2 s3
    have hd3 : H3 dm = some (.dK kvs) := s4 _ _ hdm
    have mem : (z, rs) ∈ lib := p2.mem_iff.mp (List.mem_of_getElem? hm)
    obtain ⟨v, hv, hrows⟩ := libAt_val (hlib.to (Keep.fr (Fr.same s4) fun _ k => k)) lr.nd mem
    have dg : DGet H3 dm (.str z) (some v) := by rw [← hv]; exact DGet.k (k := Sum.inr z) hd3
    refine ⟨rfl, ?_⟩
    refine ⟨_, rfl, _, rfl, _, rfl, dm, v, rfl, dg, v, ok, kk, false, rs, rfl, hrows, lr.len _ mem, lr.rows _ mem, fun H5 v' s5 hv' => ?_⟩
    have hD5 : H5 D = some (.dK kvs') := s5 _ _ hD
    have lk : kvs'.length ≤ 8 := by rw [libAt_len hl, List.length_take]; have := lr2.few; omega
    refine ⟨kvs', Sum.inr z, rfl, hD5, small (by omega), Same.upN (Same.trans s3 s5) nD, _, upd_same, ?_⟩
    have nz : z ∉ (lib2.take i).map (·.1) := fun h => by
      have nd := lr2.nd
      obtain ⟨m', hm', e'⟩ := List.mem_map.mp h
      obtain ⟨j, hj, ej⟩ := List.mem_iff_getElem.mp hm'
      rw [List.length_take] at hj
      rw [List.getElem_take] at ej
      have h1 : (lib2.map (·.1))[j]? = some z := by rw [List.getElem?_map, List.getElem?_eq_getElem (by omega), ej]; exact congrArg some e'
      have h2 : (lib2.map (·.1))[i]? = some z := by rw [List.getElem?_map, hm]; rfl
      have := nd_ix nd h1 h2
      omega
    have et : lib2.take (i + 1) = lib2.take i ++ [(z, rs)] := by rw [List.take_add_one, hm]; rfl
    rw [et, ← putL_newL nz]
    refine libAt_put (hl.to fun y kd ws k e => ⟨k, by rw [upd_ne k.2]; exact s5 _ _ e⟩) (hv'.to fun y kd ws k e => ?_)
    have yD : y ≠ D := fun e => by rw [e, hD] at k; cases k
    exact ⟨⟨Same.free s4 k, yD⟩, by rw [upd_ne yD]; exact e⟩
  · rintro H2 ⟨s3, kvs2, hD, hl⟩
    rw [List.length_map, lylen, List.take_length] at hl
    have s4 : Same H H2 := Same.trans s2 s3
    have hx2 : H2 x = some (.ins C dx []) := s4 _ _ hx
    -- self.rows_of = ..
    refine ⟨_, rfl, x, C, dx, [], rfl, hx2, PC.cl, PC.nR, by show 0 < 1000; decide, ?_⟩
    have hx3 : (upd H2 x (.ins C dx (putF "rows_of" (.ref D) []))) x = some (.ins C dx [("rows_of", .ref D)]) := upd_same
    have fr3 : Fr (· ≠ x) H (upd H2 x (.ins C dx (putF "rows_of" (.ref D) []))) := fun b o k e => by rw [upd_ne k]; exact s4 _ _ e
    have hD3 : (upd H2 x (.ins C dx (putF "rows_of" (.ref D) []))) D = some (.dK kvs2) := by rw [upd_ne Dx]; exact hD
    have hl3 : LibAt (fun y => H y = none ∧ y ≠ D) tupK (upd H2 x (.ins C dx (putF "rows_of" (.ref D) []))) kvs2 lib2 := hl.to fun y kd ws k e => ⟨k, by
      rw [upd_ne (fun z => by rw [z, hx] at k; cases k.1)]; exact e⟩
    generalize hG3 : upd H2 x _ = G3 at *
    -- self.spots = []
    refine ⟨Nat.zero_le _, fun sl nsl => ⟨_, rfl, x, C, dx, _, rfl, by rw [upd_ne (fun e => by rw [← e, hx3] at nsl; cases nsl)]; exact hx3, PC.cl, PC.nS, by show 1 < 1000; decide, ?_⟩⟩
    have slx : sl ≠ x := fun e => by rw [e, hx3] at nsl; cases nsl
    have nslH : H sl = none := fr3.free slx nsl
    have slD : sl ≠ D := fun e => by rw [e, hD3] at nsl; cases nsl
    rw [putF_spots]
    have fr4 : Fr (· ≠ x) H (upd (upd G3 sl (.lst [])) x (.ins C dx [("rows_of", .ref D), ("spots", .ref sl)])) := fun b o k e => by
      rw [upd_ne k, upd_ne (ne_of_none (fr3 _ _ k e) nsl)]; exact fr3 _ _ k e
    have hx4 : (upd (upd G3 sl (.lst [])) x (.ins C dx [("rows_of", .ref D), ("spots", .ref sl)])) x = some (.ins C dx [("rows_of", .ref D), ("spots", .ref sl)]) := upd_same
    have hsl4 : (upd (upd G3 sl (.lst [])) x (.ins C dx [("rows_of", .ref D), ("spots", .ref sl)])) sl = some (.lst []) := by rw [upd_ne slx]; exact upd_same
    have hD4 : (upd (upd G3 sl (.lst [])) x (.ins C dx [("rows_of", .ref D), ("spots", .ref sl)])) D = some (.dK kvs2) := by rw [upd_ne Dx, upd_ne slD.symm]; exact hD3
    have hl4 : LibAt (fun y => H y = none ∧ y ≠ D ∧ y ≠ sl) tupK (upd (upd G3 sl (.lst [])) x (.ins C dx [("rows_of", .ref D), ("spots", .ref sl)])) kvs2 lib2 := hl3.to fun y kd ws k e => by
      have yx : y ≠ x := fun z => by rw [z, hx] at k; cases k.1
      have ys : y ≠ sl := ne_of_none e nsl
      exact ⟨⟨k.1, k.2, ys⟩, by rw [upd_ne yx, upd_ne ys]; exact e⟩
    generalize hG4 : upd (upd G3 sl _) x _ = G4 at *
    -- the loop, its dict locked
    refine ⟨D, .dK kvs2, hD4, trivial, fun od => ?_⟩
    have hx5 : (upd G4 D (.frz od (.dK kvs2))) x = some (.ins C dx [("rows_of", .ref D), ("spots", .ref sl)]) := by rw [upd_ne Dx.symm]; exact hx4
    have hsl5 : (upd G4 D (.frz od (.dK kvs2))) sl = some (.lst []) := by rw [upd_ne slD]; exact hsl4
    have hD5 : (upd G4 D (.frz od (.dK kvs2))) D = some (.frz od (.dK kvs2)) := upd_same
    have fr5 : Fr (· ≠ x) H (upd G4 D (.frz od (.dK kvs2))) := fr4.upN nDH
    have hl5 : LibAt (fun y => H y = none ∧ y ≠ D ∧ y ≠ sl) tupK (upd G4 D (.frz od (.dK kvs2))) kvs2 lib2 := hl4.to fun y kd ws k e => ⟨k, by rw [upd_ne k.2.1]; exact e⟩
    generalize hG5 : upd G4 D _ = G5 at *
    refine ⟨_, rfl, x, C, dx, _, _, rfl, hx5, PC.cl, PC.nR, lk_rows _ _, D, od, rfl, .inl ⟨kvs2, hD5, ?_⟩⟩
    have lkv : kvs2.length = lib2.length := libAt_len hl5
    refine for_it walk_keys (fun i σ H' => Fr (· ≠ x) H H' ∧ H' x = some (.ins C dx [("rows_of", .ref D), ("spots", .ref sl)]) ∧ H' D = some (.frz od (.dK kvs2)) ∧ LibAt (fun y => H y = none ∧ y ≠ D ∧ y ≠ sl) tupK H' kvs2 lib2 ∧
        (∃ v2 v3 v4 v5, σ = [some (.ref x), some (.ref dm), v2, v3, v4, v5]) ∧ ∃ zs, H' sl = some (.lst zs) ∧ Paired (SpotAt H') zs ((lib2.take i).flatMap spotsM))
      ⟨fr5, hx5, hD5, hl5, ⟨_, _, _, _, rfl⟩, [], hsl5, .nil⟩ (fun i σ H' _ ⟨_, _, h, _⟩ => h) ?_ ?_
    · rintro i xx σ H6 H7 hi ⟨fr6, hx6, hD6, hl6, ⟨v2, v3, v4, v5, rfl⟩, zs, hs6, hz6⟩ ⟨rfl, kx, vx, hkv, rfl⟩
      obtain ⟨⟨z, rs⟩, hm, hkz, hrows⟩ := paired_get hl6 hkv
      have hkz' : kx = Sum.inr z := hkz
      subst hkz'
      have mem2 := List.mem_of_getElem? hm
      have dg : DGet H7 D (.str z) (some vx) := .inl ⟨kvs2, Sum.inr z, .inr ⟨od, hD6⟩, rfl, (valV_at (libAt_nd hl6 lr2.nd) hkv).symm⟩
      -- rows = walked(self.rows_of[word], ())
      refine ⟨_, rfl, x, C, dx, _, _, rfl, hx6, PC.cl, PC.nR, lk_rows _ _, _, rfl, D, vx, rfl, dg, Nat.zero_le _, fun t0 nt0 => ?_⟩
      have s7 : Same H7 (upd H7 t0 (.tup [])) := Same.new nt0
      refine ⟨vx, .ref t0, (fun y => H y = none ∧ y ≠ D ∧ y ≠ sl), tupK, false, rs, [], rfl, hrows.to (Keep.fr (Fr.same s7) fun _ k => k), lr2.len _ mem2, lr2.rows _ mem2, by omega, ⟨t0, rfl, upd_same⟩, by simp, fun H8 wl ws s8 nwl hwl hws => ?_⟩
      have s78 : Same H7 H8 := Same.trans s7 s8
      have hx8 := s78 _ _ hx6
      have hsl8 := s78 _ _ hs6
      -- self.spots.extend([..])
      refine ⟨_, rfl, x, C, dx, _, _, rfl, hx8, PC.cl, PC.nS, lk_spots _ _, .inl ⟨rfl, _, SqL.of hsl8⟩, ?_⟩
      refine ⟨_, rfl, wl, rfl, ⟨_, SqL.of hwl⟩, fun L nL => ?_⟩
      have lwl : (walkL 3 [] rs).length ≤ 889440 := by
        have : (walkL 3 [] rs).length ≤ 24 * cW 3 := walkL_len (lr2.len _ mem2) (lr2.rows _ mem2) []
        have c3 : cW 3 = 37060 := by decide
        omega
      have lws : ws.length = (walkL 3 [] rs).length := paired_len hws
      refine lc_it walk_list (fun j H' => Same H8 H' ∧ ∃ us, H' L = some (.lst us) ∧ Paired (SpotAt H') us ((((walkL 3 [] rs).take j).filter fun q => isImp q.2).map fun q => (z, q.1)))
        ⟨Same.new nL, [], upd_same, .nil⟩ (fun j H' _ ⟨sm, _⟩ => SqL.of (sm _ _ hwl)) ?_ ?_
      · rintro j y H9 H10 hj ⟨s9, us, hL, hus⟩ ⟨rfl, hy⟩
        obtain ⟨⟨pp, r⟩, hq, T, pv, rv, rfl, hT, hpv, hrv⟩ := paired_get hws hy
        have hT10 := s9 _ _ hT
        have hpv10 := hpv.to fun b xs e => s9 _ _ e
        have et : (walkL 3 [] rs).take (j + 1) = (walkL 3 [] rs).take j ++ [(pp, r)] := by rw [List.take_add_one, hq]; rfl
        have lus : us.length ≤ 889440 := by
          rw [paired_len hus, List.length_map]
          exact Nat.le_trans (List.length_filter_le _ _) (by rw [List.length_take]; omega)
        refine ⟨T, _, rfl, SqT.of hT10, rfl, _, _, rfl, _, _, rfl, rfl, rfl, ?_⟩
        -- row[0]
        have hr0 : ∃ ra rest, rv = .ref ra ∧ H10 ra = some (.tup (.str (rowWord r) :: rest)) := by
          obtain ⟨ra, kd, rest, e, hkd, h⟩ := rowAt_head hrv
          have hkd' : kd = false := hkd
          subst hkd'
          exact ⟨ra, rest, e, s9 _ _ h⟩
        obtain ⟨ra, rest, rfl, hra⟩ := hr0
        refine ⟨_, rfl, ra, _, 0, _, rfl, rfl, SqT.of hra, atI_nat (j := 0) rfl, (by show 2 ≤ sizeLine; decide), fun t1 nt1 => ?_⟩
        refine ⟨t1, loadPick, rfl, .inr (SqT.of upd_same), rfl, rfl, _, rfl, ?_⟩
        show if inV (.str (rowWord r)) loadPick = true then _ else _
        rw [inV_imp]
        have hus1 := paired_imp hus fun v q h => SpotAt.to h fun b xs e => Same.new (p := t1) (o := .tup loadPick) nt1 _ _ e
        cases himp : isImp r with
        | false =>
          refine iteF ⟨Same.trans s9 (Same.new nt1), us, Same.new nt1 _ _ hL, ?_⟩
          rw [et, List.filter_append, List.map_append]
          have e0 : List.filter (fun q : List Int × Row => isImp q.2) [(pp, r)] = [] := by
            rw [List.filter_cons_of_neg (by rw [himp]; exact Bool.false_ne_true)]; rfl
          rw [e0, List.map_nil, List.append_nil]
          exact hus1
        | true =>
          refine iteT ⟨_, rfl, _, rfl, (by show 2 ≤ sizeLine; decide), fun t2 nt2 => ?_⟩
          have hL2 : (upd (upd H10 t1 (.tup loadPick)) t2 (.tup [.str z, pv])) L = some (.lst us) := Same.new (o := .tup [.str z, pv]) nt2 _ _ (Same.new (o := .tup loadPick) nt1 _ _ hL)
          refine ⟨us, hL2, small (by omega), Same.upN (Same.trans s9 (Same.trans (Same.new nt1) (Same.new nt2))) nL, us ++ [.ref t2], upd_same, ?_⟩
          rw [et, List.filter_append, List.map_append]
          have e0 : List.filter (fun q : List Int × Row => isImp q.2) [(pp, r)] = [(pp, r)] := by
            rw [List.filter_cons_of_pos (p := fun q : List Int × Row => isImp q.2) (a := (pp, r)) himp]; rfl
          rw [e0]
          have tL : ∀ b xs, (upd (upd H10 t1 (.tup loadPick)) t2 (.tup [.str z, pv])) b = some (.tup xs) → (upd (upd (upd H10 t1 (.tup loadPick)) t2 (.tup [.str z, pv])) L (.lst (us ++ [.ref t2]))) b = some (.tup xs) := fun b xs e => by
            rw [upd_ne (fun q => by rw [q, hL2] at e; cases e)]; exact e
          refine paired_app ?_ (paired_imp hus1 fun v q h => h.to fun b xs e => tL _ _ (Same.new nt2 _ _ e))
          exact SpotAt.to (H := upd (upd H10 t1 (.tup loadPick)) t2 (.tup [.str z, pv])) ⟨t2, pv, rfl, upd_same, hpv10.to fun b xs e => Same.new nt2 _ _ (Same.new nt1 _ _ e)⟩ tL
      · rintro H9 ⟨s9, us, hL, hus⟩
        rw [lws, List.take_length] at hus
        have hsl9 := s9 _ _ hsl8
        have s79 : Same H7 H9 := Same.trans s78 s9
        have lus : us.length ≤ 889440 := by
          rw [paired_len hus, List.length_map]
          exact Nat.le_trans (List.length_filter_le _ _) lwl
        have lzs : zs.length ≤ 8 * 889440 := by
          rw [paired_len hz6]
          have h1 : ((lib2.take i).flatMap spotsM).length ≤ (lib2.take i).length * 889440 := flat_len fun m hm' => by
            have hm2 := List.mem_of_mem_take hm'
            unfold spotsM
            rw [List.length_map]
            refine Nat.le_trans (List.length_filter_le _ _) ?_
            have := walkL_len (lr2.len _ hm2) (lr2.rows _ hm2) []
            have c3 : cW 3 = 37060 := by decide
            omega
          have h2 : (lib2.take i).length ≤ 8 := by rw [List.length_take]; have := lr2.few; omega
          exact Nat.le_trans h1 (Nat.mul_le_mul_right 889440 h2)
        refine ⟨sl, L, zs, us, rfl, rfl, hsl9, hL, Nat.le_of_lt (Nat.lt_of_le_of_lt (show zs.length + us.length ≤ 8100000 by omega) (by decide)), ?_⟩
        have tS : ∀ b xs, H9 b = some (.tup xs) → (upd H9 sl (.lst (zs ++ us))) b = some (.tup xs) := fun b xs e => by
          rw [upd_ne (fun q => by rw [q, hsl9] at e; cases e)]; exact e
        have et : lib2.take (i + 1) = lib2.take i ++ [(z, rs)] := by rw [List.take_add_one, hm]; rfl
        refine ⟨(fr6.trans (Fr.same s79)).upN nslH, by rw [upd_ne slx.symm]; exact s79 _ _ hx6, by rw [upd_ne slD.symm]; exact s79 _ _ hD6, hl6.to fun y kd ws k e => ⟨k, by rw [upd_ne k.2.2]; exact s79 _ _ e⟩, ⟨_, _, _, _, rfl⟩, zs ++ us, upd_same, ?_⟩
        rw [et, List.flatMap_append]
        refine paired_cat (paired_imp hz6 fun v q h => h.to fun b xs e => tS _ _ (s79 _ _ e)) ?_
        rw [List.flatMap_cons, List.flatMap_nil, List.append_nil]
        exact paired_imp hus fun v q h => h.to tS
    · rintro σ H6 ⟨fr6, hx6, hD6, hl6, ⟨v2, v3, v4, v5, rfl⟩, zs, hs6, hz6⟩
      rw [lkv, List.take_length] at hz6
      refine ⟨hD6, ?_⟩
      have slD' : sl ≠ D := slD
      refine q _ D sl lib2 (fr6.upN nDH) ⟨by rw [upd_ne Dx.symm]; exact hx6, ⟨kvs2, upd_same, hl6.to fun y kd ws k e => ⟨k.1, by rw [upd_ne k.2.1]; exact e⟩⟩, ⟨zs, by rw [upd_ne slD']; exact hs6, paired_imp hz6 fun v q h => h.to fun b xs e => by
        rw [upd_ne (fun z => by rw [z, hD6] at e; cases e)]; exact e⟩⟩ p2 (by rw [e2]; exact hsort) nDH nslH
end
end Ft
set_option Elab.async false
set_option linter.all false
set_option maxRecDepth 100000
set_option maxHeartbeats 1000000
set_option pp.maxSteps 1500
namespace Ft
open PySem L2
/-- rows are tuples, blocks are lists or tuples -/
def mixK : Bool → Bool → Prop := fun b kd => b = false → kd = false
theorem mix_tup {b kd : Bool} (h : tupK b kd) : mixK b kd := fun _ => h
theorem At.kk {ok : Addr → Prop} {k k' : Bool → Prop} {H : Hp} {v : V} {xs : List V} (h : At ok k H v xs) (i : ∀ kd, k kd → k' kd) : At ok k' H v xs := by
  obtain ⟨a, kd, e, o, q, h⟩ := h
  exact ⟨a, kd, e, o, i _ q, h⟩
theorem RowAt.kk {ok : Addr → Prop} {k k' : Bool → Bool → Prop} {H : Hp} (i : ∀ b kd, k b kd → k' b kd) : ∀ {d : Nat} {v : V} {r : Row}, RowAt ok k H d v r → RowAt ok k' H d v r
  | 0, v, .plain w fs, h => At.kk h (i _)
  | d + 1, v, .plain w fs, h => At.kk h (i _)
  | d + 1, v, .make n b, ⟨vb, xs, h1, h2, h3⟩ => ⟨vb, xs, h1.kk (i _), h2.kk (i _), paired_imp h3 fun _ _ q => RowAt.kk i q⟩
  | d + 1, v, .when n b c, ⟨vb, xs, vc, ys, h1, h2, h3, h4, h5⟩ => ⟨vb, xs, vc, ys, h1.kk (i _), h2.kk (i _), paired_imp h3 fun _ _ q => RowAt.kk i q, h4.kk (i _), paired_imp h5 fun _ _ q => RowAt.kk i q⟩
  | d + 1, v, .try_ b c, ⟨vb, xs, vc, ys, h1, h2, h3, h4, h5⟩ => ⟨vb, xs, vc, ys, h1.kk (i _), h2.kk (i _), paired_imp h3 fun _ _ q => RowAt.kk i q, h4.kk (i _), paired_imp h5 fun _ _ q => RowAt.kk i q⟩
theorem RowsAt.kk {ok : Addr → Prop} {k k' : Bool → Bool → Prop} {H : Hp} {d : Nat} {v : V} {rs : List Row} (h : RowsAt ok k H d v rs) (i : ∀ b kd, k b kd → k' b kd) : RowsAt ok k' H d v rs := by
  obtain ⟨xs, h1, h2⟩ := h
  exact ⟨xs, h1.kk (i _), paired_imp h2 fun _ _ q => RowAt.kk i q⟩
def isBk : V → Bool
  | .ref _ => true
  | _ => false
def strOf : Option V → Str
  | some (.str z) => z
  | _ => ""
/-- what a load or pick row names -/
def target : Row → Str
  | .plain _ fs => strOf (fs[1]?)
  | _ => ""
def own1 (r : Row) : List Str := if isImp r = true then [target r] else []
def nmR : Nat → Row → List Str
  | 0, r => own1 r
  | d + 1, r => own1 r ++ (blocks r).flatMap fun b => b.flatMap (nmR d)
def nmL (d : Nat) (rs : List Row) : List Str := rs.flatMap (nmR d)
theorem nm_walk : ∀ {d : Nat} {wi : Bool} {rs : List Row}, (∀ r ∈ rs, RowOk d wi r) → ∀ p, (walkL d p rs).flatMap (fun q => own1 q.2) = nmL d rs := by
  intro d
  have zip : ∀ {α β : Type} {f : α × Nat → List β} {g : α → List β} {l : List α} (n : Nat), (∀ x ∈ l, ∀ i, f (x, i) = g x) → (l.zipIdx n).flatMap f = l.flatMap g := by
    intro α β f g l
    induction l with
    | nil => intro n h; rfl
    | cons x l ih =>
      intro n h
      rw [List.zipIdx_cons, List.flatMap_cons, List.flatMap_cons, h x (by simp), ih (n + 1) fun y hy => h y (by simp [hy])]
  induction d with
  | zero =>
    intro wi rs h p
    unfold walkL nmL
    rw [List.flatMap_assoc]
    exact zip 0 fun r hr i => by
      rw [rowW_eq (h r hr)]
      have e : blocks r = [] := by
        cases r with
        | plain w fs => rfl
        | _ => exact (h _ hr).elim
      rw [e]
      show List.flatMap _ [_] = own1 r
      rw [List.flatMap_cons, List.flatMap_nil, List.append_nil]
  | succ d ih =>
    intro wi rs h p
    unfold walkL nmL
    rw [List.flatMap_assoc]
    refine zip 0 fun r hr i => ?_
    rw [rowW_eq (h r hr), List.flatMap_cons, List.flatMap_assoc]
    show own1 r ++ _ = own1 r ++ _
    refine congrArg _ (zip 0 fun b hb j => ?_)
    obtain ⟨e, he, _, hr2⟩ := blk_ok (h r hr) hb
    have ee : d = e := Nat.succ.inj he
    subst ee
    exact ih hr2 _
theorem nmR_len {d : Nat} {wi : Bool} {r : Row} (h : RowOk d wi r) : (nmR d r).length ≤ cW d := by
  have e := nm_walk (d := d) (wi := wi) (rs := [r]) (fun y hy => by rw [List.mem_singleton.mp hy]; exact h) []
  have : (walkL d [] [r]).length ≤ 1 * cW d := walkL_len (n := 1) (by simp) (fun y hy => by rw [List.mem_singleton.mp hy]; exact h) []
  have f : ((walkL d [] [r]).flatMap fun q => own1 q.2).length ≤ (walkL d [] [r]).length * 1 := flat_len fun q _ => by
    unfold own1; split <;> simp
  rw [e] at f
  unfold nmL at f
  rw [List.flatMap_cons, List.flatMap_nil, List.append_nil] at f
  omega
theorem nmL_len {d n : Nat} {wi : Bool} {rs : List Row} (hl : rs.length ≤ n) (h : ∀ r ∈ rs, RowOk d wi r) : (nmL d rs).length ≤ n * cW d :=
  Nat.le_trans (flat_len fun r hr => nmR_len (h r hr)) (Nat.mul_le_mul_right _ hl)
/-- what the block of a row names -/
def blkN (d : Nat) (b : List Row) : List Str := match d with
  | 0 => []
  | e + 1 => nmL e b
theorem nmR_eq {d : Nat} {wi : Bool} {r : Row} (h : RowOk d wi r) : nmR d r = own1 r ++ (blocks r).flatMap (blkN d) := by
  cases d with
  | zero =>
    cases r with
    | plain w fs => exact (List.append_nil _).symm
    | _ => exact h.elim
  | succ d => rfl
theorem take_flat {α β : Type} (f : α → List β) (l : List α) (c : Nat) : ((l.take c).flatMap f).length ≤ (l.flatMap f).length := by
  conv => rhs; rw [← List.take_append_drop c l]
  rw [List.flatMap_append, List.length_append]; omega
theorem filt_at {α : Type} {q : α → Bool} {l : List α} {j : Nat} {y : α} (h : l[j]? = some y) (hq : q y = true) : (l.filter q)[((l.take j).filter q).length]? = some y ∧ ((l.take (j + 1)).filter q).length = ((l.take j).filter q).length + 1 := by
  have e1 : l.take (j + 1) = l.take j ++ [y] := by rw [List.take_add_one, h]; rfl
  have e2 : (l.take (j + 1)).filter q = (l.take j).filter q ++ [y] := by rw [e1, List.filter_append, List.filter_cons_of_pos hq]; rfl
  refine ⟨?_, by rw [e2, List.length_append]; rfl⟩
  conv => lhs; arg 1; rw [← List.take_append_drop (j + 1) l]
  rw [List.filter_append, e2, List.append_assoc, List.getElem?_append_right (Nat.le_refl _), Nat.sub_self]
  rfl
theorem filt_no {α : Type} {q : α → Bool} {l : List α} {j : Nat} {y : α} (h : l[j]? = some y) (hq : q y = false) : (l.take (j + 1)).filter q = (l.take j).filter q := by
  have e1 : l.take (j + 1) = l.take j ++ [y] := by rw [List.take_add_one, h]; rfl
  rw [e1, List.filter_append, List.filter_cons_of_neg (by rw [hq]; exact Bool.false_ne_true)]
  exact List.append_nil _
theorem imp_make {n : Str} {b : List Row} : isImp (.make n b) = false := by
  show (decide (("make" : Str) = "load") || decide (("make" : Str) = "pick")) = false
  decide +kernel
theorem imp_when {n : Str} {b c : List Row} : isImp (.when n b c) = false := by
  show (decide (("when" : Str) = "load") || decide (("when" : Str) = "pick")) = false
  decide +kernel
theorem imp_try {b c : List Row} : isImp (.try_ b c) = false := by
  show (decide (("try" : Str) = "load") || decide (("try" : Str) = "pick")) = false
  decide +kernel
theorem row_vals3 {O : Addr → Prop} {H : Hp} {d : Nat} {wi : Bool} {rv : V} {r : Row} (h : RowAt O mixK H d rv r) (ok : RowOk d wi r) :
    ∃ a xs, rv = .ref a ∧ O a ∧ H a = some (.tup (.str (rowWord r) :: xs)) ∧ xs.length ≤ 3 ∧ (isImp r = true → xs[1]? = some (.str (target r))) ∧ (∀ x ∈ xs, (∃ z, x = .str z) ∨ (∃ i, x = .int i) ∨ ∃ b kd ys, x = .ref b ∧ H b = some (mkO kd ys)) ∧ Paired (fun v b => ∃ e, d = e + 1 ∧ RowsAt O mixK H e v b) (xs.filter isBk) (blocks r) := by
  have tupl : ∀ {v : V} {xs : List V}, At O (mixK false) H v xs → ∃ a, v = .ref a ∧ O a ∧ H a = some (.tup xs) := fun h => by
    obtain ⟨a, kd, e, o, ek, h⟩ := h
    have ek' : kd = false := ek rfl
    subst ek'
    exact ⟨a, e, o, h⟩
  have sq : ∀ {v : V} {xs : List V}, At O (mixK true) H v xs → ∃ a kd, v = .ref a ∧ H a = some (mkO kd xs) := fun h => by
    obtain ⟨a, kd, e, o, _, h⟩ := h
    exact ⟨a, kd, e, h⟩
  have pl : ∀ {w : Str} {fs : List V}, plainOk wi w fs → At O (mixK false) H rv (.str w :: fs) → ∃ a xs, rv = .ref a ∧ O a ∧ H a = some (.tup (.str w :: xs)) ∧ xs.length ≤ 3 ∧ (isImp (.plain w fs) = true → xs[1]? = some (.str (target (.plain w fs)))) ∧ (∀ x ∈ xs, (∃ z, x = .str z) ∨ (∃ i, x = .int i) ∨ ∃ b kd ys, x = .ref b ∧ H b = some (mkO kd ys)) ∧ xs.filter isBk = [] := fun {w fs} hp ha => by
    obtain ⟨a, e, o, h⟩ := tupl ha
    obtain ⟨ks, hk, hp, _⟩ := hp
    have hl : ks.length ≤ 3 ∧ ((decide (w = "load") || decide (w = "pick")) = true → ks[1]? = some true) := by
      unfold plainT at hk
      simp only [List.mem_cons, Prod.mk.injEq, List.mem_nil_iff, or_false] at hk
      rcases hk with ⟨e1, e⟩ | ⟨e1, e⟩ | ⟨e1, e⟩ | ⟨e1, e⟩ | ⟨e1, e⟩ | ⟨e1, e⟩ | ⟨e1, e⟩ | ⟨e1, e⟩ | ⟨e1, e⟩ | ⟨e1, e⟩ | ⟨e1, e⟩ <;> (rw [e, e1]; exact ⟨by decide, by decide +kernel⟩)
    have l2 : fs.length ≤ 3 := by
      have := paired_len hp
      omega
    have vals : ∀ x ∈ fs, (∃ z, x = .str z) ∨ (∃ i, x = .int i) := fun x hx => by
      obtain ⟨i, hi, e⟩ := List.mem_iff_getElem.mp hx
      have l3 := paired_len hp
      obtain ⟨k, _, hk⟩ := paired_getR hp (i := i) (y := x) (by rw [List.getElem?_eq_getElem hi, e])
      cases x <;> first | exact .inl ⟨_, rfl⟩ | exact .inr ⟨_, rfl⟩ | (cases k <;> cases hk)
    refine ⟨a, fs, e, o, h, l2, fun hi => ?_, fun x hx => ?_, ?_⟩
    · obtain ⟨y, hy, hk⟩ := paired_get hp (hl.2 hi)
      have : ∃ z, y = .str z := by cases y <;> first | exact ⟨_, rfl⟩ | cases hk
      obtain ⟨z, rfl⟩ := this
      show fs[1]? = some (V.str (strOf fs[1]?))
      rw [hy]; rfl
    · rcases vals x hx with h | h
      · exact .inl h
      · exact .inr (.inl h)
    · rw [List.filter_eq_nil_iff]
      intro x hx
      rcases vals x hx with ⟨z, rfl⟩ | ⟨z, rfl⟩ <;> exact fun z => nomatch z
  cases d with
  | zero =>
    cases r with
    | plain w fs =>
      obtain ⟨a, xs, e, o, h, l, t, v, f⟩ := pl ok h
      exact ⟨a, xs, e, o, h, l, t, v, by rw [f]; exact .nil⟩
    | _ => exact ok.elim
  | succ d =>
    cases r with
    | plain w fs =>
      obtain ⟨a, xs, e, o, h, l, t, v, f⟩ := pl ok h
      exact ⟨a, xs, e, o, h, l, t, v, by rw [f]; exact .nil⟩
    | make n b =>
      obtain ⟨vb, xs, h1, h2, h3⟩ := h
      obtain ⟨a, rfl, oa, ha⟩ := tupl h1
      obtain ⟨ab, kb, rfl, hb⟩ := sq h2
      refine ⟨a, _, rfl, oa, ha, by simp, (fun z => absurd z (by rw [imp_make]; decide)), fun x hx => ?_, .cons ⟨d, rfl, xs, h2, h3⟩ .nil⟩
      simp only [List.mem_cons, List.mem_nil_iff, or_false] at hx
      rcases hx with e | e <;> subst e
      · exact .inl ⟨_, rfl⟩
      · exact .inr (.inr ⟨_, _, _, rfl, hb⟩)
    | when n b c =>
      obtain ⟨vb, xs, vc, ys, h1, h2, h3, h4, h5⟩ := h
      obtain ⟨a, rfl, oa, ha⟩ := tupl h1
      obtain ⟨ab, kb, rfl, hb⟩ := sq h2
      obtain ⟨ac, kc, rfl, hc⟩ := sq h4
      refine ⟨a, _, rfl, oa, ha, by simp, (fun z => absurd z (by rw [imp_when]; decide)), fun x hx => ?_, .cons ⟨d, rfl, xs, h2, h3⟩ (.cons ⟨d, rfl, ys, h4, h5⟩ .nil)⟩
      simp only [List.mem_cons, List.mem_nil_iff, or_false] at hx
      rcases hx with e | e | e <;> subst e
      · exact .inl ⟨_, rfl⟩
      · exact .inr (.inr ⟨_, _, _, rfl, hb⟩)
      · exact .inr (.inr ⟨_, _, _, rfl, hc⟩)
    | try_ b c =>
      obtain ⟨vb, xs, vc, ys, h1, h2, h3, h4, h5⟩ := h
      obtain ⟨a, rfl, oa, ha⟩ := tupl h1
      obtain ⟨ab, kb, rfl, hb⟩ := sq h2
      obtain ⟨ac, kc, rfl, hc⟩ := sq h4
      refine ⟨a, _, rfl, oa, ha, by simp, (fun z => absurd z (by rw [imp_try]; decide)), fun x hx => ?_, .cons ⟨d, rfl, xs, h2, h3⟩ (.cons ⟨d, rfl, ys, h4, h5⟩ .nil)⟩
      simp only [List.mem_cons, List.mem_nil_iff, or_false] at hx
      rcases hx with e | e <;> subst e
      · exact .inr (.inr ⟨_, _, _, rfl, hb⟩)
      · exact .inr (.inr ⟨_, _, _, rfl, hc⟩)
section
variable {P : Program} {w : World} {K : PySem.W.Frag} {mg : Str → Option Value} {base : Heap}
abbrev sNamedModules : Stmt := topS 2
theorem scNamedModules : FnScope ["rows", "found", "row", "block"] ["rows"] (defScope sNamedModules) := ⟨rfl, rfl, rfl, by decide +kernel, rfl, by decide +kernel, by decide +kernel⟩
def spNamed (d : Nat) : Sp := fun vs H Q _ => ∃ (v : V) (ok : Addr → Prop) (wi : Bool) (rs : List Row), vs = [v] ∧ RowsAt ok mixK H d v rs ∧ rs.length ≤ 24 ∧ (∀ r ∈ rs, RowOk d wi r) ∧ d ≤ 3 ∧
  ∀ H' l, Same H H' → H l = none → H' l = some (.lst ((nmL d rs).map V.str)) → Q (.ref l) H'
theorem ok_NamedModules {f : Addr} {fd : FuncData} {k d : Nat} {spF : Sp} (F : Fun K "named_modules" "named_modules" sNamedModules f fd) (B : Bl mg) (hk : 1 ≤ k)
    (gNamedModules : Own P w K mg base k "named_modules" ["rows"] spF) (hF : ∀ e, d = e + 1 → spF = spNamed e) : FnOk P w K mg base CX0 (k + 1) f fd ["rows"] (spNamed d) := by
  refine F.ok scNamedModules (fun vs H Q E h => ?_) (fun cdv A outer s H vs Q E hr h => ?_)
  · obtain ⟨v, ok, wi, rs, rfl, _⟩ := h
    rfl
  obtain ⟨v, ok, wi, rs, rfl, hrs, hlen, hok, hd3, q⟩ := h
  refine ⟨_, (pss_cons (ps_set (i := 1) scNamedModules.nd rfl (by first | exact Or.inl rfl | exact Or.inr rfl) (pe_lst pa_nil))
      (pss_cons (ps_for PassesOwn.never rfl (pi_seq (pv 0)) (pg_name (i := 2) scNamedModules.nd rfl (by first | exact Or.inl rfl | exact Or.inr rfl)) (pss_cut (ps_if (pt_cmpR op_in_seq (pe_ix ix_tup (pv 2) pe_int (fun _ _ => rfl)) (pe_tup (pa_cons pe_str (pa_cons pe_str pa_nil))) (by rfl)) (pss_one (ps_expr (pe_bm PySem.F.plainAttrs_list PySem.F.slot_list_append PySem.F.type_list_append mt_append (pv 1) (pa_cons (pe_ix ix_tup (pv 2) pe_int (fun _ _ => rfl)) pa_nil)))) pss_nil)
      (pss_one (ps_for PassesOwn.never rfl (pi_tup (pe_slice sl_tup (pv 2) (po_some pe_int) po_none)) (pg_name (i := 3) scNamedModules.nd rfl (by first | exact Or.inl rfl | exact Or.inr rfl)) (pss_one (ps_if (pt_val (pe_callB call_isiT (by rfl) B.isinstance (by decide +kernel) (pa_cons (pv 3) (pa_cons (pe_tup (pa_cons (pe_bltn (v := .ty "list") (by rfl) B.list (by decide +kernel) rfl) (pa_cons (pe_bltn (v := .ty "tuple") (by rfl) B.tuple (by decide +kernel) rfl) pa_nil))) pa_nil)))) (pss_one (ps_expr (pe_bm PySem.F.plainAttrs_list PySem.F.slot_list_extend PySem.F.type_list_extend mt_extend (pv 1) (pa_cons (pe_own gNamedModules (hr.mono (by omega)) (by rfl) (pa_cons (pv 3) pa_nil)) pa_nil)))) pss_nil))))))
      (pss_one (ps_ret (pv 1))))), ?_⟩
  refine ⟨Nat.zero_le _, fun l nl => ?_⟩
  have s0 : Same H (upd H l (.lst [])) := Same.new nl
  have hrs2 : RowsAt (fun x => ok x ∧ x ≠ l) mixK H d v rs := hrs.to (Keep.mono fun x k hx => ⟨k, fun e => hx (by rw [e]; exact nl)⟩)
  obtain ⟨xs, ⟨a, kd, rfl, oka, kka, ha⟩, hxs⟩ := hrs2
  have l0 := paired_len hxs
  have cw : ∀ i, ((rs.take i).flatMap (nmR d)).length ≤ 24 * cW d := fun i => nmL_len (by rw [List.length_take]; omega) fun r hr => hok r (List.mem_of_mem_take hr)
  have c3 : cW d ≤ 37060 := by
    have : cW 3 = 37060 := by decide
    have h4 : d = 0 ∨ d = 1 ∨ d = 2 ∨ d = 3 := by omega
    rcases h4 with e | e | e | e <;> subst e <;> decide
  refine ⟨_, rfl, a, kd, xs, rfl, sq_of (s0 _ _ ha), ?_⟩
  refine for_it walk_seq (fun i σ H' => Same H H' ∧ (∃ v2 v3, σ = [some (.ref a), some (.ref l), v2, v3]) ∧ H' l = some (.lst (((rs.take i).flatMap (nmR d)).map V.str)))
    ⟨s0, ⟨none, none, rfl⟩, upd_same⟩ (fun i σ H' _ ⟨sm, _⟩ => sq_of (sm _ _ ha)) ?_ ?_
  · rintro i x σ H1 H2 hi ⟨sm, ⟨v2, v3, rfl⟩, hl⟩ ⟨rfl, hx⟩
    have hi' : i < rs.length := by omega
    obtain ⟨r, hr', hrow⟩ := paired_get hxs hx
    have rok := hok r (List.mem_of_getElem? hr')
    obtain ⟨ra, fs, rfl, hora, hra, lfs, himp, hfs, hblk⟩ := row_vals3 (hrow.to (Keep.fr (Fr.same sm) fun _ k => k)) rok
    have lz := cw i
    refine ⟨fun σ H' => Same H H' ∧ (∃ v3, σ = [some (.ref a), some (.ref l), some (.ref ra), v3]) ∧ H' l = some (.lst (((rs.take i).flatMap (nmR d) ++ own1 r).map V.str)), ?_, ?_⟩
    · refine ⟨_, rfl, ra, _, 0, _, rfl, rfl, SqT.of hra, atI_nat (j := 0) rfl, (by show 2 ≤ sizeLine; decide), fun t4 nt4 => ⟨t4, loadPick, rfl, .inr (SqT.of upd_same), rfl, rfl, _, rfl, ?_⟩⟩
      rw [show inV (.str (rowWord r)) loadPick = isImp r from inV_imp r]
      have s4 : Same H2 (upd H2 t4 (.tup [.str "load", .str "pick"])) := Same.new nt4
      generalize upd H2 t4 _ = G at *
      have hlG := s4 _ _ hl
      cases c : isImp r with
      | false =>
        refine iteF ⟨Same.trans sm s4, ⟨_, rfl⟩, ?_⟩
        unfold own1
        rw [c, if_neg Bool.false_ne_true, List.append_nil]
        exact hlG
      | true =>
        refine iteT ⟨_, rfl, .inl ⟨rfl, _, SqL.of hlG⟩, _, rfl, ra, _, 2, .str (target r), rfl, rfl, SqT.of (s4 _ _ hra), atI_nat (j := 2) (himp c), l, _, _, rfl, rfl, hlG, small (by rw [List.length_map]; omega), ?_⟩
        refine ⟨Same.upN (Same.trans sm s4) nl, ⟨_, rfl⟩, ?_⟩
        unfold own1
        rw [upd_same, c, if_pos rfl, List.map_append]; rfl
    rintro σ H3 ⟨sm3, ⟨v3, rfl⟩, hl3⟩
    have hrow3 : RowAt (fun x => ok x ∧ x ≠ l) mixK H3 d (.ref ra) r := hrow.to (Keep.fr (Fr.same sm3) fun _ k => k)
    obtain ⟨ra', fs', era, _, hra3, lfs', himp', hfs', hblk'⟩ := row_vals3 hrow3 rok
    cases era
    clear hfs hblk himp hra lfs fs
    refine ⟨_, rfl, _, rfl, ra, _, rfl, SqT.of hra3, ?_, fun p np => ?_⟩
    · intro z
      have := z.1
      rw [show (some (1 : Int)) = some ((1 : Nat) : Int) from rfl, HT.sIx_nat, List.length_cons] at this
      omega
    rw [cut1]
    have s4 : Same H3 (upd H3 p (.tup fs')) := Same.new np
    have hp : (upd H3 p (.tup fs')) p = some (.tup fs') := upd_same
    generalize upd H3 p _ = H4 at *
    have hl4 := s4 _ _ hl3
    have sH4 := Same.trans sm3 s4
    have pl : p ≠ l := fun z => by rw [z, hl3] at np; cases np
    refine ⟨p, rfl, ⟨_, SqT.of hp⟩, ?_⟩
    refine for_it walk_tup (fun j σ H' => Same H H' ∧ Keep (fun x => ok x ∧ x ≠ l) (fun x => ok x ∧ x ≠ l) H3 H' ∧ H' p = some (.tup fs') ∧ (∃ v3, σ = [some (.ref a), some (.ref l), some (.ref ra), v3]) ∧
        H' l = some (.lst (((rs.take i).flatMap (nmR d) ++ (own1 r ++ ((blocks r).take ((fs'.take j).filter isBk).length).flatMap (blkN d))).map V.str)))
      ⟨sH4, Keep.fr (Fr.same s4) fun _ k => k, hp, ⟨_, rfl⟩, ?_⟩ (fun j σ H' _ ⟨_, _, h, _⟩ => SqT.of h) ?_ ?_
    · rw [List.take_zero]
      show H4 l = some (.lst (((rs.take i).flatMap (nmR d) ++ (own1 r ++ [])).map V.str))
      rw [List.append_nil]; exact hl4
    · rintro j y σ H5 H6 hj ⟨sm5, kp5, hp5, ⟨w3, rfl⟩, hl5⟩ ⟨rfl, hy⟩
      refine ⟨_, rfl, (by show 2 ≤ sizeLine; decide), fun t0 nt0 => ?_⟩
      have s6 : Same H6 (upd H6 t0 (.tup [.ty "list", .ty "tuple"])) := Same.new nt0
      have ht0 : (upd H6 t0 (.tup [.ty "list", .ty "tuple"])) t0 = some (.tup [.ty "list", .ty "tuple"]) := upd_same
      generalize upd H6 t0 _ = G at *
      have sG := Same.trans sm5 s6
      have kpG := kp5.trans (Keep.fr (Fr.same s6) fun _ k => k)
      have hlG := s6 _ _ hl5
      have hpG := s6 _ _ hp5
      have no : isBk y = false → G l = some (.lst (((rs.take i).flatMap (nmR d) ++ (own1 r ++ ((blocks r).take ((fs'.take (j + 1)).filter isBk).length).flatMap (blkN d))).map V.str)) := fun e => by
        rw [filt_no hy e]; exact hlG
      rcases hfs' y (List.mem_of_getElem? hy) with ⟨z, rfl⟩ | ⟨z, rfl⟩ | ⟨b, kb, ys, rfl, hb⟩
      · exact ⟨_, t0, _, _, _, _, rfl, ht0, clsV_all ["list", "tuple"], .base (.str z), kitAny_of (by decide +kernel), false, rfl, iteF ⟨sG, kpG, hpG, ⟨_, rfl⟩, no rfl⟩⟩
      · exact ⟨_, t0, _, _, _, _, rfl, ht0, clsV_all ["list", "tuple"], .base (.int z), kitAny_of (by decide +kernel), false, rfl, iteF ⟨sG, kpG, hpG, ⟨_, rfl⟩, no rfl⟩⟩
      obtain ⟨e1, e2⟩ := filt_at (q := isBk) hy rfl
      obtain ⟨bb, hbb, e, rfl, hrows⟩ := paired_get hblk' e1
      have eF := hF e rfl
      subst eF
      obtain ⟨e', he', h11, hr11⟩ := blk_ok rok (List.mem_of_getElem? hbb)
      have ee : e = e' := Nat.succ.inj he'
      subst ee
      have hrowsG : RowsAt (fun x => ok x ∧ x ≠ l) mixK G e (.ref b) bb := hrows.to kpG
      have l1 : ((own1 r ++ ((blocks r).take ((fs'.take j).filter isBk).length).flatMap (blkN (e + 1)))).length ≤ cW (e + 1) := by
        refine Nat.le_trans ?_ (nmR_len rok)
        rw [nmR_eq rok, List.length_append, List.length_append]
        have := take_flat (blkN (e + 1)) (blocks r) ((fs'.take j).filter isBk).length
        omega
      have l2' : (nmL e bb).length ≤ cW (e + 1) := by
        have h1 : (nmL e bb).length ≤ 11 * cW e := nmL_len h11 hr11
        have h2 : cW (e + 1) = 1 + 33 * cW e := rfl
        omega
      have then_ : ∀ G7 l2, Same G G7 → G7 l2 = some (.lst ((nmL e bb).map V.str)) → G7 l = some (.lst (((rs.take i).flatMap (nmR (e + 1)) ++ (own1 r ++ ((blocks r).take ((fs'.take j).filter isBk).length).flatMap (blkN (e + 1)))).map V.str)) ∧
          Same H (upd G7 l (.lst (((rs.take i).flatMap (nmR (e + 1)) ++ (own1 r ++ ((blocks r).take ((fs'.take j).filter isBk).length).flatMap (blkN (e + 1)))).map V.str ++ (nmL e bb).map V.str))) ∧
          Keep (fun x => ok x ∧ x ≠ l) (fun x => ok x ∧ x ≠ l) H3 (upd G7 l (.lst (((rs.take i).flatMap (nmR (e + 1)) ++ (own1 r ++ ((blocks r).take ((fs'.take j).filter isBk).length).flatMap (blkN (e + 1)))).map V.str ++ (nmL e bb).map V.str))) ∧
          (upd G7 l (.lst (((rs.take i).flatMap (nmR (e + 1)) ++ (own1 r ++ ((blocks r).take ((fs'.take j).filter isBk).length).flatMap (blkN (e + 1)))).map V.str ++ (nmL e bb).map V.str))) p = some (.tup fs') ∧
          (upd G7 l (.lst (((rs.take i).flatMap (nmR (e + 1)) ++ (own1 r ++ ((blocks r).take ((fs'.take j).filter isBk).length).flatMap (blkN (e + 1)))).map V.str ++ (nmL e bb).map V.str))) l =
            some (.lst (((rs.take i).flatMap (nmR (e + 1)) ++ (own1 r ++ ((blocks r).take ((fs'.take (j + 1)).filter isBk).length).flatMap (blkN (e + 1)))).map V.str)) := fun G7 l2 s8 hl2 => by
        have hl7 := s8 _ _ hlG
        refine ⟨hl7, Same.upN (Same.trans sG s8) nl, (kpG.trans (Keep.fr (Fr.same s8) fun _ k => k)).trans (KT.lst hl7 (fun x k => k.2) fun x k => k).k, ?_, ?_⟩
        · rw [upd_ne pl]; exact s8 _ _ hpG
        · rw [upd_same, e2, List.take_add_one, hbb, List.flatMap_append]
          show some (HO.lst _) = some (HO.lst (List.map V.str (_ ++ (own1 r ++ (_ ++ [bb].flatMap (blkN (e + 1)))))))
          rw [List.flatMap_cons, List.flatMap_nil, List.append_nil]
          simp only [List.map_append, List.append_assoc]
          rfl
      generalize hA : ((rs.take i).flatMap (nmR (e + 1)) ++ (own1 r ++ ((blocks r).take ((fs'.take j).filter isBk).length).flatMap (blkN (e + 1)))) = AA at *
      have lA : AA.length ≤ 25 * cW (e + 1) := by
        rw [← hA, List.length_append]; omega
      obtain ⟨xs', ⟨b', kd', eb, _, _, hbG⟩, _⟩ := id hrowsG
      cases eb
      cases kd' with
      | true =>
        refine ⟨_, t0, _, _, _, _, rfl, ht0, clsV_all ["list", "tuple"], .base (.lst hbG), kitAny_of (by decide +kernel), true, rfl, iteT ⟨_, rfl, .inl ⟨rfl, _, SqL.of hlG⟩, _, rfl, .ref b, (fun x => ok x ∧ x ≠ l), _, bb, rfl, hrowsG, by omega, hr11, by omega, fun G7 l2 s8 nl2 hl2 => ?_⟩⟩
        obtain ⟨hl7, q1, q2, q3, q4⟩ := then_ G7 l2 s8 hl2
        exact ⟨l, l2, _, _, rfl, rfl, hl7, hl2, smallE (by rw [List.length_map, List.length_map]; omega), q1, q2, q3, ⟨_, rfl⟩, q4⟩
      | false =>
        refine ⟨_, t0, _, _, _, _, rfl, ht0, clsV_all ["list", "tuple"], .base (.tup hbG), kitAny_of (by decide +kernel), true, rfl, iteT ⟨_, rfl, .inl ⟨rfl, _, SqL.of hlG⟩, _, rfl, .ref b, (fun x => ok x ∧ x ≠ l), _, bb, rfl, hrowsG, by omega, hr11, by omega, fun G7 l2 s8 nl2 hl2 => ?_⟩⟩
        obtain ⟨hl7, q1, q2, q3, q4⟩ := then_ G7 l2 s8 hl2
        exact ⟨l, l2, _, _, rfl, rfl, hl7, hl2, smallE (by rw [List.length_map, List.length_map]; omega), q1, q2, q3, ⟨_, rfl⟩, q4⟩
    · rintro σ H5 ⟨sm5, kp5, hp5, ⟨w3, rfl⟩, hl5⟩
      refine ⟨sm5, ⟨_, _, rfl⟩, ?_⟩
      rw [List.take_length, paired_len hblk', List.take_length, ← nmR_eq rok] at hl5
      rw [List.take_add_one, hr', List.flatMap_append]
      show H5 l = some (.lst (((rs.take i).flatMap (nmR d) ++ [r].flatMap (nmR d)).map V.str))
      rw [List.flatMap_cons, List.flatMap_nil, List.append_nil]
      exact hl5
  · rintro σ H1 ⟨sm, ⟨v2, v3, rfl⟩, hl⟩
    rw [List.take_of_length_le (by omega)] at hl
    exact ⟨_, rfl, q _ l sm nl hl⟩
theorem named_ok {f : Addr} {fd : FuncData} (F : Fun K "named_modules" "named_modules" sNamedModules f fd) (B : Bl mg) (m : mg "named_modules" = some (.ref f)) (b : Binds K fd ["rows"] []) :
    ∀ d : Nat, Own P w K mg base (2 + d) "named_modules" ["rows"] (spNamed d)
  | 0 => own_mk F m b (ok_NamedModules (k := 1) F B (by omega) (own_mk F m b fn_false) (fun e h => absurd h (by omega)))
  | d + 1 => own_mk F m b (ok_NamedModules (k := 2 + d) F B (by omega) (named_ok F B m b d) (fun e h => by
      have : d = e := by omega
      rw [this]))
end
end Ft
set_option Elab.async false
set_option linter.all false
namespace Ft
section
variable {α : Type} [DecidableEq α] {mods : List α} {nm : α → List α}
/-- from a to b by one or more steps, all that lies between in M -/
inductive Via (nm : α → List α) (M : List α) : α → α → Prop
  | one {a b : α} : b ∈ nm a → Via nm M a b
  | two {a b c : α} : c ∈ M → Via nm M a c → Via nm M c b → Via nm M a b
theorem Via.mono {M M' : List α} (h : ∀ x ∈ M, x ∈ M') {a b : α} (v : Via nm M a b) : Via nm M' a b := by
  induction v with
  | one e => exact .one e
  | two c _ _ i j => exact .two (h _ c) i j
/-- one more that may lie between -/
theorem Via.split {M : List α} {m a b : α} (v : Via nm (M ++ [m]) a b) : Via nm M a b ∨ (Via nm M a m ∧ Via nm M m b) := by
  induction v with
  | one e => exact .inl (.one e)
  | @two a b c hc _ _ i j =>
    rcases List.mem_append.mp hc with h | h
    · rcases i with i | ⟨i1, i2⟩
      · rcases j with j | ⟨j1, j2⟩
        · exact .inl (.two h i j)
        · exact .inr ⟨.two h i j1, j2⟩
      · rcases j with j | ⟨j1, j2⟩
        · exact .inr ⟨i1, .two h i2 j⟩
        · exact .inr ⟨i1, j2⟩
    · rw [List.mem_singleton.mp h] at i j
      exact .inr ⟨i.elim id (·.1), j.elim id (·.2)⟩
/-- the table is right, and tells all ways through M -/
structure Tab (mods : List α) (nm : α → List α) (M : List α) (W : α → α → Prop) : Prop where
  rt : ∀ a b, W a b → Via nm mods a b
  al : ∀ a ∈ mods, ∀ b ∈ mods, Via nm M a b → W a b
theorem Tab.nil {W : α → α → Prop} (h : ∀ a b, W a b ↔ a ∈ mods ∧ b ∈ nm a) : Tab mods nm [] W :=
  ⟨fun a b w => .one ((h a b).mp w).2, fun a ha b _ v => by
    cases v with
    | one e => exact (h a b).mpr ⟨ha, e⟩
    | two c => cases c⟩
/-- a middle one is done -/
theorem Tab.next {M : List α} {W W' : α → α → Prop} {m : α} (t : Tab mods nm M W) (t' : ∀ a b, W' a b → Via nm mods a b) (up : ∀ a b, W a b → W' a b) (hm : m ∈ mods)
    (all : ∀ a ∈ mods, ∀ b, b ∈ mods → W a m → W m b → W' a b) : Tab mods nm (M ++ [m]) W' := ⟨t', fun a ha b hb v => by
  rcases v.split with h | ⟨h1, h2⟩
  · exact up _ _ (t.al a ha b hb h)
  · exact all a ha b hb (t.al a ha m hm h1) (t.al m hm b hb h2)⟩
def putP (ps : List (α × α)) (q : α × α) : List (α × α) := if q ∈ ps then ps else ps ++ [q]
theorem mem_putP {ps : List (α × α)} {q x : α × α} : x ∈ putP ps q ↔ x ∈ ps ∨ x = q := by
  unfold putP
  split
  · rename_i h
    exact ⟨.inl, fun z => z.elim id fun e => e ▸ h⟩
  · rw [List.mem_append, List.mem_singleton]
theorem nd_putP {ps : List (α × α)} {q : α × α} (h : ps.Nodup) : (putP ps q).Nodup := by
  unfold putP
  split
  · exact h
  · rename_i n
    exact List.nodup_append.mpr ⟨h, List.nodup_cons.mpr ⟨(fun z => nomatch z), List.nodup_nil⟩, fun y hy z hz e => n (by rw [List.mem_singleton.mp hz] at e; exact e ▸ hy)⟩
theorem mem_putPs : ∀ {qs ps : List (α × α)} {x : α × α}, x ∈ qs.foldl putP ps ↔ x ∈ ps ∨ x ∈ qs
  | [], ps, x => ⟨.inl, fun z => z.elim id fun z => nomatch z⟩
  | q :: qs, ps, x => by
    rw [List.foldl_cons, mem_putPs, mem_putP, List.mem_cons]
    constructor
    · rintro ((h | h) | h)
      · exact .inl h
      · exact .inr (.inl h)
      · exact .inr (.inr h)
    · rintro (h | h | h)
      · exact .inl (.inl h)
      · exact .inl (.inr h)
      · exact .inr h
def stB (m a : α) (ps : List (α × α)) (b : α) : List (α × α) := if (a, m) ∈ ps ∧ (m, b) ∈ ps then putP ps (a, b) else ps
def stA (ws : List α) (m : α) (ps : List (α × α)) (a : α) : List (α × α) := ws.foldl (stB m a) ps
def stM (ws : List α) (ps : List (α × α)) (m : α) : List (α × α) := ws.foldl (stA ws m) ps
def Rt (nm : α → List α) (mods : List α) (ps : List (α × α)) : Prop := ∀ q ∈ ps, Via nm mods q.1 q.2
theorem stB_ok {m a : α} (hm : m ∈ mods) : ∀ (l : List α) (ps : List (α × α)), Rt nm mods ps → Rt nm mods (l.foldl (stB m a) ps) ∧ (∀ q ∈ ps, q ∈ l.foldl (stB m a) ps) ∧ ∀ b ∈ l, (a, m) ∈ ps → (m, b) ∈ ps → (a, b) ∈ l.foldl (stB m a) ps
  | [], ps, h => ⟨h, fun _ z => z, fun _ z => nomatch z⟩
  | x :: l, ps, h => by
    have up : ∀ q ∈ ps, q ∈ stB m a ps x := fun q hq => by unfold stB; split <;> first | exact mem_putP.mpr (.inl hq) | exact hq
    have r' : Rt nm mods (stB m a ps x) := by
      unfold stB
      split
      · rename_i c
        intro q hq
        rcases mem_putP.mp hq with e | e
        · exact h q e
        · rw [e]; exact .two hm (h _ c.1) (h _ c.2)
      · exact h
    obtain ⟨h1, h2, h3⟩ := stB_ok hm l (stB m a ps x) r'
    refine ⟨h1, fun q hq => h2 q (up q hq), fun b hb k1 k2 => ?_⟩
    rcases List.mem_cons.mp hb with e | e
    · refine h2 _ ?_
      unfold stB
      rw [e] at k2 ⊢
      rw [if_pos ⟨k1, k2⟩]
      exact mem_putP.mpr (.inr rfl)
    · exact h3 b e (up _ k1) (up _ k2)
theorem stA_ok {ws : List α} {m : α} (hm : m ∈ mods) : ∀ (l : List α) (ps : List (α × α)), Rt nm mods ps → Rt nm mods (l.foldl (stA ws m) ps) ∧ (∀ q ∈ ps, q ∈ l.foldl (stA ws m) ps) ∧ ∀ a ∈ l, ∀ b ∈ ws, (a, m) ∈ ps → (m, b) ∈ ps → (a, b) ∈ l.foldl (stA ws m) ps
  | [], ps, h => ⟨h, fun _ z => z, fun _ z => nomatch z⟩
  | x :: l, ps, h => by
    obtain ⟨r1, r2, r3⟩ := stB_ok (nm := nm) (m := m) (a := x) hm ws ps h
    obtain ⟨h1, h2, h3⟩ := stA_ok (ws := ws) hm l (stA ws m ps x) r1
    refine ⟨h1, fun q hq => h2 q (r2 q hq), fun a ha b hb k1 k2 => ?_⟩
    rcases List.mem_cons.mp ha with e | e
    · rw [e] at k1 ⊢
      exact h2 _ (r3 b hb k1 k2)
    · exact h3 a e b hb (r2 _ k1) (r2 _ k2)
theorem stM_ok {ws : List α} (hw : ∀ x, x ∈ ws ↔ x ∈ mods) : ∀ (l M : List α) (ps : List (α × α)), (∀ m ∈ l, m ∈ mods) → Tab mods nm M (fun a b => (a, b) ∈ ps) → Tab mods nm (M ++ l) (fun a b => (a, b) ∈ l.foldl (stM ws) ps)
  | [], M, ps, _, t => by rw [List.append_nil]; exact t
  | m :: l, M, ps, hl, t => by
    have hm := hl m (by simp)
    obtain ⟨r1, r2, r3⟩ := stA_ok (nm := nm) (ws := ws) hm ws ps fun q hq => t.rt q.1 q.2 hq
    have := stM_ok hw l (M ++ [m]) (stM ws ps m) (fun x hx => hl x (by simp [hx])) (t.next (fun a b k => r1 (a, b) k) (fun a b k => r2 _ k) hm fun a ha b hb k1 k2 => r3 a ((hw a).mpr ha) b ((hw b).mpr hb) k1 k2)
    rw [List.append_assoc] at this
    exact this
/-- the law's table tells all ways -/
theorem table55 {ws : List α} (hw : ∀ x, x ∈ ws ↔ x ∈ mods) {ps : List (α × α)} (h0 : ∀ a b, (a, b) ∈ ps ↔ a ∈ mods ∧ b ∈ nm a) : ∀ a ∈ mods, ∀ b ∈ mods, (a, b) ∈ ws.foldl (stM ws) ps ↔ Via nm mods a b := fun a ha b hb => by
  have t := stM_ok hw ws [] ps (fun m hm => (hw m).mp hm) (Tab.nil h0)
  rw [List.nil_append] at t
  exact ⟨t.rt a b, fun v => t.al a ha b hb (v.mono fun x hx => (hw x).mpr hx)⟩
/-- f: found, l: left; P: what x has named so far, x the one that is looked at -/
structure Dfs (mods : List α) (nm : α → List α) (m : α) (f l : List α) : Prop where
  nd : f.Nodup
  sub : ∀ x ∈ f, x ∈ mods
  rch : ∀ x ∈ f, Via nm mods m x
  lft : ∀ x ∈ l, x = m ∨ x ∈ f
  don : ∀ x, (x = m ∨ x ∈ f) → x ∉ l → ∀ o ∈ nm x, o ∈ mods → o ∈ f
structure DfsIn (mods : List α) (nm : α → List α) (m x : α) (p f l : List α) : Prop where
  nd : f.Nodup
  sub : ∀ y ∈ f, y ∈ mods
  rch : ∀ y ∈ f, Via nm mods m y
  lft : ∀ y ∈ l, y = m ∨ y ∈ f
  x_ : x = m ∨ x ∈ f
  pre : ∀ o ∈ p, o ∈ nm x
  pfx : ∀ o ∈ p, o ∈ mods → o ∈ f
  don : ∀ y, (y = m ∨ y ∈ f) → y ∉ l → y ≠ x → ∀ o ∈ nm y, o ∈ mods → o ∈ f
theorem Dfs.start {m : α} : Dfs mods nm m [] [m] := ⟨List.nodup_nil, (fun _ h => nomatch h), (fun _ h => nomatch h), fun x h => .inl (List.mem_singleton.mp h), fun x h n => absurd (List.mem_singleton.mpr (h.elim id fun z => nomatch z)) n⟩
theorem Dfs.pop {m x : α} {f l : List α} (d : Dfs mods nm m f (l ++ [x])) : DfsIn mods nm m x [] f l :=
  ⟨d.nd, d.sub, d.rch, fun y h => d.lft y (List.mem_append_left _ h), d.lft x (List.mem_append_right _ (List.mem_singleton.mpr rfl)), (fun _ h => nomatch h), (fun _ h => nomatch h), fun y h n ne => d.don y h fun z => (List.mem_append.mp z).elim n fun e => ne (List.mem_singleton.mp e)⟩
theorem DfsIn.old {m x o : α} {p f l : List α} (d : DfsIn mods nm m x p f l) (ho : o ∈ nm x) (h : o ∈ mods → o ∈ f) : DfsIn mods nm m x (p ++ [o]) f l :=
  ⟨d.nd, d.sub, d.rch, d.lft, d.x_, fun y hy => (List.mem_append.mp hy).elim (d.pre y) fun e => (List.mem_singleton.mp e) ▸ ho, fun y hy k => (List.mem_append.mp hy).elim (fun z => d.pfx y z k) fun e => by
    rw [List.mem_singleton.mp e] at k ⊢; exact h k, d.don⟩
theorem DfsIn.fresh {m x o : α} {p f l : List α} (hmm : m ∈ mods) (d : DfsIn mods nm m x p f l) (ho : o ∈ nm x) (h : o ∈ mods) (n : o ∉ f) : DfsIn mods nm m x (p ++ [o]) (f ++ [o]) (l ++ [o]) := by
  have up : ∀ y ∈ f, y ∈ f ++ [o] := fun y hy => List.mem_append_left _ hy
  have o1 : o ∈ f ++ [o] := List.mem_append_right _ (List.mem_singleton.mpr rfl)
  have cs : ∀ {y : α} {q : List α}, y ∈ q ++ [o] → y ∈ q ∨ y = o := fun hy => (List.mem_append.mp hy).imp_right List.mem_singleton.mp
  refine ⟨?_, fun y hy => (cs hy).elim (d.sub y) fun e => e ▸ h, fun y hy => (cs hy).elim (d.rch y) fun e => ?_, fun y hy => (cs hy).elim (fun z => (d.lft y z).imp_right (up y)) fun e => .inr (e ▸ o1), d.x_.imp_right (up x),
    fun y hy => (cs hy).elim (d.pre y) fun e => e ▸ ho, fun y hy k => (cs hy).elim (fun z => up y (d.pfx y z k)) fun e => e ▸ o1, fun y hy hl ne o' ho' hm' => ?_⟩
  · rw [List.nodup_append]
    exact ⟨d.nd, List.nodup_cons.mpr ⟨(fun z => nomatch z), List.nodup_nil⟩, fun y hy z hz e => n (by rw [List.mem_singleton.mp hz] at e; exact e ▸ hy)⟩
  · rw [e]
    rcases d.x_ with e2 | e2
    · rw [← e2]; exact .one ho
    · exact .two (d.sub x e2) (d.rch x e2) (.one ho)
  · have yl : y ∉ l := fun z => hl (List.mem_append_left _ z)
    have yo : y ≠ o := fun z => hl (List.mem_append_right _ (List.mem_singleton.mpr z))
    exact up _ (d.don y (hy.imp_right fun z => (cs z).resolve_right yo) yl ne o' ho' hm')
theorem DfsIn.done {m x : α} {p f l : List α} (d : DfsIn mods nm m x p f l) (hp : ∀ o ∈ nm x, o ∈ p) : Dfs mods nm m f l :=
  ⟨d.nd, d.sub, d.rch, d.lft, fun y hy hl o ho hm => by
    by_cases c : y = x
    · rw [c] at ho; exact d.pfx o (hp o ho) hm
    · exact d.don y hy hl c o ho hm⟩
/-- what is found in the end -/
theorem Dfs.end_ {m : α} {f : List α} (hm : m ∈ mods) (d : Dfs mods nm m f []) : ∀ b, b ∈ f ↔ b ∈ mods ∧ Via nm mods m b := fun b =>
  ⟨fun h => ⟨d.sub b h, d.rch b h⟩, fun ⟨hb, v⟩ => by
    have all : ∀ a c, Via nm mods a c → (a = m ∨ a ∈ f) → c ∈ mods → c ∈ f := fun a c v => by
      induction v with
      | one e => exact fun ha hc => d.don _ ha (fun z => nomatch z) _ e hc
      | two h _ _ i j => exact fun ha hc => j (.inr (i ha h)) hc
    exact all m b v (.inl rfl) hb⟩
theorem sub_len55 : ∀ {f ms : List α}, f.Nodup → (∀ x ∈ f, x ∈ ms) → f.length ≤ ms.length
  | [], _, _, _ => Nat.zero_le _
  | x :: f, ms, nd, h => by
    obtain ⟨h1, h2⟩ := List.nodup_cons.mp nd
    have := sub_len55 (ms := ms.erase x) h2 fun y hy => (List.mem_erase_of_ne (show y ≠ x from fun e => h1 (by rw [← e]; exact hy))).mpr (h y (List.mem_cons_of_mem _ hy))
    have e := List.length_erase_of_mem (h x (List.mem_cons_self ..))
    have p := List.length_pos_of_mem (h x (List.mem_cons_self ..))
    rw [List.length_cons]
    omega
theorem Dfs.len {m : α} {f l : List α} (d : Dfs mods nm m f l) : f.length ≤ mods.length := sub_len55 d.nd d.sub
theorem DfsIn.len {m x : α} {p f l : List α} (d : DfsIn mods nm m x p f l) : f.length ≤ mods.length := sub_len55 d.nd d.sub
/-- what stands ahead in a list, empties and repetitions left out -/
def once (xs : List (List α)) : List (List α) := xs.foldl (fun acc r => if r ≠ [] ∧ r ∉ acc then acc ++ [r] else acc) []
theorem once_app (xs : List (List α)) (r : List α) : once (xs ++ [r]) = if r ≠ [] ∧ r ∉ once xs then once xs ++ [r] else once xs := by
  unfold once; rw [List.foldl_append]; rfl
theorem once_mem (xs : List (List α)) : ∀ r, r ∈ once xs ↔ r ∈ xs ∧ r ≠ [] := by
  have key : ∀ n (xs : List (List α)), xs.length = n → ∀ r, r ∈ once xs ↔ r ∈ xs ∧ r ≠ [] := by
    intro n
    induction n with
    | zero =>
      intro xs h r
      rw [List.length_eq_zero_iff.mp h]
      exact ⟨(fun z => nomatch z), (fun z => nomatch z.1)⟩
    | succ n ih =>
      intro xs h r
      obtain ⟨ys, y, rfl⟩ : ∃ ys y, xs = ys ++ [y] := ⟨xs.dropLast, xs.getLast (by intro e; rw [e] at h; cases h), (List.dropLast_concat_getLast _).symm⟩
      have hl : ys.length = n := by rw [List.length_append, List.length_singleton] at h; omega
      have i := ih ys hl
      rw [once_app]
      split
      · rename_i c
        rw [List.mem_append, List.mem_append, List.mem_singleton, i]
        constructor
        · rintro (⟨h1, h2⟩ | h1)
          · exact ⟨.inl h1, h2⟩
          · exact ⟨.inr h1, h1 ▸ c.1⟩
        · rintro ⟨h1 | h1, h2⟩
          · exact .inl ⟨h1, h2⟩
          · exact .inr h1
      · rename_i c
        rw [List.mem_append, List.mem_singleton, i]
        constructor
        · rintro ⟨h1, h2⟩; exact ⟨.inl h1, h2⟩
        · rintro ⟨h1 | h1, h2⟩
          · exact ⟨h1, h2⟩
          · have : y ∈ once ys := Classical.byContradiction fun z => c ⟨h1 ▸ h2, z⟩
            rw [h1]; exact (i y).mp this
  exact key xs.length xs rfl
/-- the law's way to say it -/
theorem once_law (ys : List (List α)) (r : List α) : once (ys ++ [r]) = if r ≠ [] ∧ r ∉ ys then once ys ++ [r] else once ys := by
  rw [once_app]
  by_cases c : r = []
  · rw [if_neg fun z => z.1 c, if_neg fun z => z.1 c]
  · by_cases d : r ∈ ys
    · rw [if_neg fun z => z.2 ((once_mem ys r).mpr ⟨d, c⟩), if_neg fun z => z.2 d]
    · rw [if_pos ⟨c, fun z => d ((once_mem ys r).mp z).1⟩, if_pos ⟨c, d⟩]
end
end Ft
set_option Elab.async false
set_option linter.all false
set_option maxRecDepth 100000
set_option maxHeartbeats 4000000
namespace Ft
open PySem L2
theorem isW_strOk {z : Str} (h : isW z = true) : PyData.strOk z = true := by
  unfold isW at h
  rw [Bool.and_eq_true, Bool.and_eq_true] at h
  unfold PyData.strOk
  rw [Array.all_eq_true']
  intro c hc
  have := List.all_eq_true.mp h.2.2 c (Array.mem_toList_iff.mpr hc)
  rw [Bool.and_eq_true] at this
  have h2 : c ≤ 122 := of_decide_eq_true this.2
  exact decide_eq_true (by omega)
theorem canLay_strs : ∀ {zs : List Str}, (∀ z ∈ zs, isW z = true) → PyData.canLayAll0 (zs.map PyData.str) = true
  | [], _ => by simp [PyData.canLayAll0]
  | z :: zs, h => by
    rw [List.map_cons, PyData.canLayAll0, PyData.canLay0, isW_strOk (h z (by simp)), canLay_strs fun y hy => h y (by simp [hy])]
    rfl
theorem depth_strs : ∀ (zs : List Str), PyData.depthAll (zs.map PyData.str) = 0
  | [] => by simp [PyData.depthAll]
  | z :: zs => by rw [List.map_cons, PyData.depthAll, PyData.depth, depth_strs zs]; rfl
theorem shaped_strs {zs : List Str} (h : ∀ z ∈ zs, isW z = true) : SeqAt.shaped (.list (zs.map PyData.str)) = true := by
  unfold SeqAt.shaped
  rw [PyData.canLay0, canLay_strs h, PyData.depth, depth_strs]
  decide
theorem eqv_nil (zs : List Str) : PyData.eqv (.list (zs.map PyData.str)) (.list []) = zs.isEmpty := by
  cases zs with
  | nil => simp [PyData.eqv, PyData.eqvAll]
  | cons z zs => simp [PyData.eqv, PyData.eqvAll]
end Ft
set_option Elab.async false
set_option linter.all false
set_option maxRecDepth 100000
set_option maxHeartbeats 1000000
set_option pp.maxSteps 2500
namespace Ft
open PySem L2
/-- what a module names -/
def nm55 (lib : Lib) (m : Str) : List Str := match lib.find? (fun p => p.1 == m) with
  | some p => nmL 3 p.2
  | none => []
section
variable {P : Program} {w : World} {K : PySem.W.Frag} {mg : Str → Option Value} {base : Heap}
abbrev sReachedFrom : Stmt := topS 3
theorem scReachedFrom : FnScope ["program", "module", "found", "left", "other"] ["program", "module"] (defScope sReachedFrom) := ⟨rfl, rfl, rfl, by decide +kernel, rfl, by decide +kernel, by decide +kernel⟩
structure Prog55 (H : Hp) (C px rd : Addr) (kvs : List (Key × V)) (lib : Lib) : Prop where
  at_ : ∃ pdx sv, H px = some (.ins C pdx [("rows_of", .ref rd), ("spots", sv)])
  d : H rd = some (.dK kvs)
  l : LibAt (fun _ => True) tupK H kvs lib
  r : LibR lib
theorem Prog55.same {H H' : Hp} {C px rd : Addr} {kvs : List (Key × V)} {lib : Lib} (p : Prog55 H C px rd kvs lib) (s : Same H H') : Prog55 H' C px rd kvs lib := by
  obtain ⟨dx, sv, e⟩ := p.at_
  exact ⟨⟨dx, sv, s _ _ e⟩, s _ _ p.d, p.l.to (Keep.fr (Fr.same s) fun _ k => k), p.r⟩
theorem flat55 : ∀ zs : List Str, (zs.map V.str).all flatV = true
  | [] => rfl
  | _ :: zs => flat55 zs
theorem some55 {ok : Addr → Prop} {kk : Bool → Bool → Prop} {H : Hp} {kvs : List (Key × V)} {lib : Lib} (h : LibAt ok kk H kvs lib) (o : Str) : (valV kvs (Sum.inr o)).isSome = decide (o ∈ lib.map (·.1)) := by
  rw [← valV_any, Bool.eq_iff_iff, List.any_eq_true, decide_eq_true_iff]
  have e := libAt_keys h
  constructor
  · rintro ⟨x, hx, q⟩
    have : (Sum.inr o : Key) ∈ (lib.map (·.1)).map Sum.inr := by
      rw [← e, List.mem_map]; exact ⟨x, hx, of_decide_eq_true q⟩
    obtain ⟨y, hy, q2⟩ := List.mem_map.mp this
    exact Sum.inr.inj q2 ▸ hy
  · intro hx
    have : (Sum.inr o : Key) ∈ kvs.map (·.1) := by rw [e]; exact List.mem_map.mpr ⟨o, hx, rfl⟩
    obtain ⟨y, hy, q2⟩ := List.mem_map.mp this
    exact ⟨y, hy, decide_eq_true q2⟩
theorem nm55_of : ∀ {lib : Lib} {m : Str} {rs : List Row}, (lib.map (·.1)).Nodup → (m, rs) ∈ lib → nm55 lib m = nmL 3 rs
  | p :: lib, m, rs, hn, hm => by
    obtain ⟨h1, h2⟩ := List.nodup_cons.mp hn
    unfold nm55
    rw [List.find?_cons]
    rcases List.mem_cons.mp hm with e | e
    · subst e
      rw [show ((m, rs).1 == m) = true from beq_self_eq_true m]
    · rw [show (p.1 == m) = false from beq_false_of_ne fun z => h1 (List.mem_map.mpr ⟨_, e, z.symm⟩)]
      exact nm55_of h2 e
def lenAt (H : Hp) (a : Addr) : Nat := match H a with
  | some (.lst xs) => xs.length
  | _ => 0
theorem lenAt_of {H : Hp} {a : Addr} {xs : List V} (h : H a = some (.lst xs)) : lenAt H a = xs.length := by unfold lenAt; rw [h]
theorem dpAll_strs {K : PySem.W.Frag} {H : Hp} : ∀ zs : List Str, DpAll K H (zs.map V.str) (zs.map PyData.str)
  | [] => .nil
  | z :: zs => .cons (.str z) (dpAll_strs zs)
def spReached (C : Addr) : Sp := fun vs H Q _ => ∃ (px rd : Addr) (kvs : List (Key × V)) (lib : Lib) (m : Str), vs = [.ref px, .str m] ∧ Prog55 H C px rd kvs lib ∧ m ∈ lib.map (·.1) ∧
  ∀ (H' : Hp) (l : Addr) (f : List Str), Same H H' → H l = none → H' l = some (.lst (f.map V.str)) → f.length ≤ 8 → (∀ b, b ∈ f ↔ b ∈ lib.map (·.1) ∧ Via (nm55 lib) (lib.map (·.1)) m b) → Q (.ref l) H'
theorem ok_ReachedFrom {f C : Addr} {fd : FuncData} {k : Nat} (F : Fun K "reached_from" "reached_from" sReachedFrom f fd) (B : Bl mg) (PC : PCls K mg C) (hk : 5 ≤ k)
    (gNamedModules : Own P w K mg base 5 "named_modules" ["rows"] (spNamed 3)) : FnOk P w K mg base CX0 (k + 1) f fd ["program", "module"] (spReached C) := by
  refine F.ok scReachedFrom (fun vs H Q E h => ?_) (fun cdv A outer s H vs Q E hr h => ?_)
  · obtain ⟨px, rd, kvs, lib, m, rfl, _⟩ := h
    rfl
  obtain ⟨px, rd, kvs, lib, m, rfl, hP, hm, q⟩ := h
  refine ⟨_, (pss_cons (ps_par (i := 2) (j := 3) (by rfl) scReachedFrom.nd rfl rfl (by decide) rfl rfl (pa_cons (pe_lst pa_nil) (pa_cons (pe_lst (pa_cons (pv 1) pa_nil)) pa_nil)) (by rfl))
      (pss_cons (ps_while PassesOwn.never (pt_cmpR (op_neD hr.units) (pv 3) (pe_lst pa_nil) (nomark _)) (pss_one (ps_for PassesOwn.never rfl (pi_list (pe_own gNamedModules (hr.mono (by omega)) (by rfl) (pa_cons (pe_dget (hu_of hr) (pe_fld (pv 0) rfl) (pe_bm0 PySem.F.plainAttrs_list PySem.F.slot_list_pop PySem.F.type_list_pop mt_pop (pv 3)) (fun _ _ => rfl)) pa_nil))) (pg_name (i := 4) scReachedFrom.nd rfl (by first | exact Or.inl rfl | exact Or.inr rfl)) (pss_one (ps_if (PW.pt (pw_and (pt_cmp (pc_din (hu_of hr) (pv 4) (pe_fld (pv 0) rfl))) (pw_and1 (pt_cmpR op_notIn_seq (pv 4) (pv 2) (by rfl))))) (pss_cons (ps_expr (pe_bm PySem.F.plainAttrs_list PySem.F.slot_list_append PySem.F.type_list_append mt_append (pv 2) (pa_cons (pv 4) pa_nil)))
      (pss_one (ps_expr (pe_bm PySem.F.plainAttrs_list PySem.F.slot_list_append PySem.F.type_list_append mt_append (pv 3) (pa_cons (pv 4) pa_nil))))) pss_nil)))))
      (pss_one (ps_ret (pv 2))))), ?_⟩
  refine ⟨Nat.zero_le _, fun lf nlf => ⟨_, rfl, (by show 1 ≤ sizeLine; decide), fun ll nll => ⟨_, _, rfl, ?_⟩⟩⟩
  have lfl : ll ≠ lf := fun z => by rw [z, upd_same] at nll; cases nll
  have s0 : Same H (upd (upd H lf (.lst [])) ll (.lst [.str m])) := Same.trans (Same.new nlf) (Same.new nll)
  have hll0 : (upd (upd H lf (.lst [])) ll (.lst [.str m])) ll = some (.lst ([m].map V.str)) := upd_same
  have hlf0 : (upd (upd H lf (.lst [])) ll (.lst [.str m])) lf = some (.lst (([] : List Str).map V.str)) := by rw [upd_ne lfl.symm]; exact upd_same
  have nll0 : H ll = none := by rw [upd_ne lfl] at nll; exact nll
  generalize upd (upd H lf _) ll _ = H0 at *
  refine while_by (fun σ H' => ∃ v4 f l, σ = [some (.ref px), some (.str m), some (.ref lf), some (.ref ll), v4] ∧ Same H H' ∧ H' lf = some (.lst (f.map V.str)) ∧ H' ll = some (.lst (l.map V.str)) ∧ Dfs (lib.map (·.1)) (nm55 lib) m f l ∧ l.length + (lib.length - f.length) ≤ lib.length + 1)
    (fun σ H' => lenAt H' ll + (lib.length - lenAt H' lf)) ⟨none, [], [m], rfl, s0, hlf0, hll0, Dfs.start, by simp; omega⟩ ?_ (fun σ H' Q Q' i h => ?_)
  · rintro σ H1 ⟨v4, f, l, rfl, s1, hf, hl, dfs, bnd⟩
    have wl : ∀ z ∈ l, isW z = true := fun z hz => by
      have : z ∈ lib.map (·.1) := (dfs.lft z hz).elim (fun e => e ▸ hm) (dfs.sub z)
      obtain ⟨p, hp, rfl⟩ := List.mem_map.mp this
      exact hP.r.word p hp
    refine ⟨_, rfl, Nat.zero_le _, fun e ne => ?_⟩
    have s2 : Same H1 (upd H1 e (.lst [])) := Same.new ne
    have he : (upd H1 e (.lst [])) e = some (.lst []) := upd_same
    generalize upd H1 e _ = H2 at *
    refine ⟨_, _, .lst (SqL.of (s2 _ _ hl)) (dpAll_strs l), .lst (SqL.of he) .nil, shaped_strs wl, rfl, _, rfl, ?_⟩
    rw [eqv_nil]
    have s12 := Same.trans s1 s2
    rcases List.eq_nil_or_concat l with rfl | ⟨l, x, rfl⟩
    · refine iteF ⟨_, rfl, q _ lf f s12 nlf (s2 _ _ hf) (Nat.le_trans dfs.len (by rw [List.length_map]; exact hP.r.few)) (dfs.end_ hm)⟩
    rw [List.concat_eq_append] at *
    have hl2 := s2 _ _ hl
    have hP2 := hP.same s12
    obtain ⟨pdx, sv, hpx⟩ := hP2.at_
    rw [show (!(l ++ [x]).isEmpty) = true by cases l <;> rfl]
    have hx : x ∈ lib.map (·.1) := (dfs.lft x (by simp)).elim (fun e => e ▸ hm) (dfs.sub x)
    obtain ⟨⟨x', rs⟩, hmem, ex⟩ := List.mem_map.mp hx
    have ex : x' = x := ex
    subst ex
    have enm := nm55_of hP.r.nd hmem
    refine iteT ⟨_, rfl, px, C, pdx, _, .ref rd, rfl, hpx, PC.cl, PC.nR, rfl, _, rfl, .inl ⟨rfl, _, SqL.of hl2⟩, ll, _, .str x', rfl, rfl, hl2, ?_, ?_⟩
    · rw [List.map_append, List.length_append, List.getElem?_append_right (by simp)]
      simp
    have ed : ((l ++ [x']).map V.str).dropLast = l.map V.str := by rw [List.map_append]; exact List.dropLast_concat
    rw [ed]
    have s3 : Same H (upd H2 ll (.lst (l.map V.str))) := Same.upN s12 nll0
    have hll3 : (upd H2 ll (.lst (l.map V.str))) ll = some (.lst (l.map V.str)) := upd_same
    have hlf3 : (upd H2 ll (.lst (l.map V.str))) lf = some (.lst (f.map V.str)) := by rw [upd_ne lfl.symm]; exact s2 _ _ hf
    generalize upd H2 ll _ = H3 at *
    have hP3 := hP.same s3
    obtain ⟨v, hv, hrows⟩ := libAt_val hP3.l hP.r.nd hmem
    have dg : DGet H3 rd (.str x') (some v) := by rw [← hv]; exact DGet.k (k := Sum.inr x') hP3.d
    refine ⟨rd, v, rfl, dg, v, (fun _ => True), false, rs, rfl, hrows.kk fun _ _ => mix_tup, hP.r.len _ hmem, hP.r.rows _ hmem, Nat.le_refl _, fun H4 l2 s34 nl2 hl2' => ?_⟩
    rw [← enm] at hl2'
    refine ⟨l2, rfl, ⟨_, SqL.of hl2'⟩, ?_⟩
    have few : (lib.map (·.1)).length ≤ 8 := by rw [List.length_map]; exact hP.r.few
    have bl : l.length + 1 + (lib.length - f.length) ≤ lib.length + 1 := by rw [List.length_append] at bnd; exact bnd
    have lh : lenAt H1 ll = l.length + 1 := by rw [lenAt_of hl, List.length_map, List.length_append]; rfl
    have lhf : lenAt H1 lf = f.length := by rw [lenAt_of hf, List.length_map]
    have n2l : l2 ≠ ll := fun z => by rw [z, hll3] at nl2; cases nl2
    have n2f : l2 ≠ lf := fun z => by rw [z, hlf3] at nl2; cases nl2
    refine for_it (walk_list (xs := (nm55 lib x').map V.str)) (fun i σ H' => ∃ v4 f' l', σ = [some (.ref px), some (.str m), some (.ref lf), some (.ref ll), v4] ∧ Same H H' ∧ H' lf = some (.lst (f'.map V.str)) ∧ H' ll = some (.lst (l'.map V.str)) ∧ H' l2 = some (.lst ((nm55 lib x').map V.str)) ∧
        DfsIn (lib.map (·.1)) (nm55 lib) m x' ((nm55 lib x').take i) f' l' ∧ l'.length + (lib.length - f'.length) ≤ l.length + (lib.length - f.length))
      ⟨v4, f, l, rfl, Same.trans s3 s34, s34 _ _ hlf3, s34 _ _ hll3, hl2', dfs.pop, Nat.le_refl _⟩ (fun i σ H' _ ⟨_, _, _, _, _, _, _, h, _⟩ => SqL.of h) ?_ ?_
    · rintro i y σ H5 H6 hi ⟨v4', f', l', rfl, s5, hf5, hl5, h25, d5, ms⟩ ⟨rfl, hy⟩
      rw [List.getElem?_map] at hy
      cases eo : (nm55 lib x')[i]? with
      | none => rw [eo] at hy; cases hy
      | some o =>
      rw [eo] at hy
      cases Option.some.inj hy
      have ho : o ∈ nm55 lib x' := List.mem_of_getElem? eo
      have et : (nm55 lib x').take (i + 1) = (nm55 lib x').take i ++ [o] := by rw [List.take_add_one, eo]; rfl
      have hP5 := hP.same s5
      obtain ⟨pdx5, sv5, hpx5⟩ := hP5.at_
      have f8 := d5.len
      refine ⟨_, rfl, _, rfl, px, C, pdx5, _, .ref rd, rfl, hpx5, PC.cl, PC.nR, rfl, rd, _, rfl, DGet.k (k := Sum.inr o) hP5.d, _, rfl, ?_⟩
      rw [some55 hP5.l]
      by_cases c : o ∈ lib.map (·.1)
      · rw [decide_eq_true c]
        refine iteT ⟨_, rfl, _, rfl, lf, _, rfl, .inl (SqL.of hf5), rfl, flat55 _, _, rfl, ?_⟩
        rw [inV_iff]
        by_cases c2 : o ∈ f'
        · rw [decide_eq_true c2]
          exact iteF ⟨_, f', l', rfl, s5, hf5, hl5, h25, et ▸ d5.old ho fun _ => c2, ms⟩
        · rw [decide_eq_false c2]
          refine iteT ⟨_, rfl, .inl ⟨rfl, _, SqL.of hf5⟩, _, rfl, lf, _, _, rfl, rfl, hf5, small (by rw [List.length_map]; omega), ?_⟩
          have hl6 : (upd H6 lf (.lst (f'.map V.str ++ [.str o]))) ll = some (.lst (l'.map V.str)) := by rw [upd_ne lfl]; exact hl5
          refine ⟨_, rfl, .inl ⟨rfl, _, SqL.of hl6⟩, _, rfl, ll, _, _, rfl, rfl, hl6, small (by rw [List.length_map]; omega), ?_⟩
          refine ⟨_, f' ++ [o], l' ++ [o], rfl, Same.upN (Same.upN s5 nlf) nll0, ?_, ?_, ?_, et ▸ d5.fresh hm ho c c2, ?_⟩
          · rw [upd_ne lfl.symm, upd_same, List.map_append]; rfl
          · rw [upd_same, List.map_append]; rfl
          · rw [upd_ne n2l, upd_ne n2f]; exact h25
          · have f9 := (d5.fresh hm ho c c2).len
            rw [List.length_append, List.length_map] at f9
            rw [List.length_append, List.length_append]
            simp only [List.length_singleton] at f9 ⊢
            omega
      · rw [decide_eq_false c]
        exact iteF (iteF ⟨_, f', l', rfl, s5, hf5, hl5, h25, et ▸ d5.old ho fun z => absurd z c, ms⟩)
    · rintro σ H5 ⟨v4', f', l', rfl, s5, hf5, hl5, h25, d5, ms⟩
      rw [List.length_map, List.take_length] at d5
      refine ⟨⟨v4', f', l', rfl, s5, hf5, hl5, d5.done fun _ h => h, by omega⟩, ?_⟩
      rw [lenAt_of hl5, lenAt_of hf5, lh, lhf, List.length_map, List.length_map]
      omega
  · obtain ⟨v, hv, hz, h⟩ := h
    refine ⟨v, hv, hz, fun e ne => ?_⟩
    obtain ⟨d1, d2, a1, a2, a3, a4, k, ek, hk⟩ := h e ne
    exact ⟨d1, d2, a1, a2, a3, a4, k, ek, i _ _ hk⟩
end
end Ft
set_option Elab.async false
set_option linter.all false
set_option maxRecDepth 100000
set_option maxHeartbeats 4000000
namespace Ft
open PySem L2 PySem.W
theorem each_of : ∀ {bs : List (V × PyData)} {us : List Value}, Vals (bs.map (·.1)) us → EachIs (fun (u : Value) (b : V × PyData) => RelV b.1 u) us bs
  | [], [], _ => .nil
  | [], _ :: _, h => by cases h
  | _ :: _, [], h => by cases h
  | b :: bs, u :: us, h => by
    cases h with
    | cons r t => exact .cons r (each_of t)
theorem of_each : ∀ {bs : List (V × PyData)} {us : List Value}, EachIs (fun (u : Value) (b : V × PyData) => RelV b.1 u) us bs → Vals (bs.map (·.1)) us
  | _, _, .nil => .nil
  | _, _, .cons r t => .cons r (of_each t)
def rSortedDD (K : Frag) : List V → Hp → VK → Prop := fun vs H Q => ∃ (a : Addr) (bs : List (V × PyData)), vs = [.ref a] ∧ SqL K H a (bs.map (·.1)) ∧ (∀ b ∈ bs, Dp K H b.1 b.2) ∧ AllAlike (bs.map (·.2)) ∧ Sortable (bs.map (·.2)) ∧ (∀ b ∈ bs, b.2.depth ≤ 60) ∧
  ∀ p, H p = none → Q (.ref p) (upd H p (.lst ((bs.mergeSort (dataLe false fun b : V × PyData => b.2)).map (·.1))))
theorem cr_sortedDD {X : Cx} (hu : X.A.units + 64 < cLine) : CallR X (.builtin "sorted") (rSortedDD X.K) := by
  intro pins s σ H vs us Q I r h
  obtain ⟨a, bs, rfl, hs, hd, hal, hso, hdp, q⟩ := h
  obtain ⟨its, rv, hl, hz⟩ := I.list hs
  rw [Vals.ref1 r]
  have e := each_of rv
  have er : EachIs (fun (v : Value) (b : V × PyData) => ∃ as, PySem.Reads s.heap v b.2 as) its bs := by
    have go : ∀ {bs : List (V × PyData)} {us : List Value}, (∀ b ∈ bs, Dp X.K H b.1 b.2) → EachIs (fun (u : Value) (b : V × PyData) => RelV b.1 u) us bs → EachIs (fun (v : Value) (b : V × PyData) => ∃ as, PySem.Reads s.heap v b.2 as) us bs := by
      intro bs us hd h
      induction h with
      | nil => exact .nil
      | cons r _ ih => exact .cons (Dp.reads I _ _ _ (hd _ (by simp)) r) (ih fun b hb => hd b (by simp [hb]))
    exact go hd e
  rw [List.length_map] at hz
  refine sorted_data (R := fun (u : Value) (b : V × PyData) => RelV b.1 u) (enc := fun b : V × PyData => b.2) hl.isList e er hal hso hz (fun b hb => by have := hdp b hb; omega) fun out hlen ho => ?_
  obtain ⟨ep, he'⟩ := PyProof.Rows.sortedAll_at s.heap its out.toArray
  have hv := of_each ho
  have hlen2 : ((bs.mergeSort (dataLe false fun b : V × PyData => b.2)).map (·.1)).length ≤ sizeLine := by
    rw [List.length_map, List.length_mergeSort]; exact hz
  exact ⟨.ref _, upd H (s.heap.objs.size + 1) (.lst ((bs.mergeSort (dataLe false fun b : V × PyData => b.2)).map (·.1))), I.laid (t' := s.toks) (fun _ _ => PyProof.Rows.sortedAll_old) (Nat.le_succ _) ⟨hlen2, out, ep, hv, he'⟩, rfl, q _ (I.hok.fresh (Nat.le_succ _))⟩
/-- two arrangements in order of one list, one of them strictly, are the same -/
theorem sorted_eq {α : Type} {lt : α → α → Prop} : ∀ {l m : List α}, l.Perm m → l.Pairwise (fun a b => ¬ lt b a) → m.Pairwise lt → l = m
  | [], m, h, _, _ => (List.Perm.nil_eq h)
  | y :: l, [], h, _, _ => by cases h.length_eq
  | y :: l, x :: m, h, hl, hm => by
    rw [List.pairwise_cons] at hl hm
    have e : y = x := by
      have hy : y ∈ x :: m := h.mem_iff.mp (by simp)
      have hx : x ∈ y :: l := h.mem_iff.mpr (by simp)
      rcases List.mem_cons.mp hy with e | hy
      · exact e
      · rcases List.mem_cons.mp hx with e | hx
        · exact e.symm
        · exact absurd (hm.1 y hy) (hl.1 x hx)
    subst e
    rw [sorted_eq ((List.perm_cons y).mp h) hl.2 hm.2]
end Ft
set_option Elab.async false
set_option linter.all false
set_option maxRecDepth 100000
set_option maxHeartbeats 1000000
set_option pp.maxSteps 1500
namespace Ft
open PySem L2
def rNinL (K : PySem.W.Frag) : R2 := fun x y H Q => ∃ d ds, Dp K H x d ∧ Dp K H y (.list ds) ∧ SeqAt.shaped d = true ∧ SeqAt.shaped (.list ds) = true ∧ Q (.bl (!ds.any fun z => PyData.eqv z d)) H
theorem op_ninL {X : Cx} (hu : X.A.units + 65 < cLine) : OpR X (compareOp .NotIn) (rNinL X.K) := by
  intro pins s σ H x y v u Q I rx ry h
  obtain ⟨d, ds, hd, he, sd, se, q⟩ := h
  obtain ⟨as, r1⟩ := Dp.reads I d x v hd rx
  obtain ⟨bs, r2⟩ := Dp.reads I (.list ds) y u he ry
  exact SeqAt.notIn_list_reads r2 r1 (SeqAt.canLay_of_shaped se) (SeqAt.canLay_of_shaped sd) (PyProof.Rows.room_in_shaped sd hu) ⟨.bl _, H, I, rfl, q⟩
/-- lists of words, as data -/
def strsD (r : List Str) : PyData := .list (r.map PyData.str)
theorem canLay_strsD : ∀ {rs : List (List Str)}, (∀ r ∈ rs, ∀ z ∈ r, isW z = true) → PyData.canLayAll0 (rs.map strsD) = true
  | [], _ => by simp [PyData.canLayAll0]
  | r :: rs, h => by
    rw [List.map_cons, PyData.canLayAll0, canLay_strsD fun y hy => h y (by simp [hy])]
    show ((strsD r).canLay0 && true) = true
    unfold strsD
    rw [PyData.canLay0, canLay_strs (h r (by simp))]; rfl
theorem depth_strsD : ∀ (rs : List (List Str)), PyData.depthAll (rs.map strsD) ≤ 1
  | [] => by simp [PyData.depthAll]
  | r :: rs => by
    rw [List.map_cons, PyData.depthAll]
    have := depth_strsD rs
    have e : (strsD r).depth ≤ 1 := by unfold strsD; rw [PyData.depth, depth_strs]; decide
    omega
theorem shaped_strsD {rs : List (List Str)} (h : ∀ r ∈ rs, ∀ z ∈ r, isW z = true) : SeqAt.shaped (.list (rs.map strsD)) = true := by
  unfold SeqAt.shaped
  rw [PyData.canLay0, canLay_strsD h, PyData.depth]
  have := depth_strsD rs
  simp
  omega
theorem eqv_strs : ∀ {a b : List Str}, PyData.eqv (strsD a) (strsD b) = decide (a = b) := by
  have all : ∀ {a b : List Str}, PyData.eqvAll (a.map PyData.str) (b.map PyData.str) = decide (a = b) := by
    intro a
    induction a with
    | nil => intro b; cases b <;> simp [PyData.eqvAll]
    | cons x a ih =>
      intro b
      cases b with
      | nil => simp [PyData.eqvAll]
      | cons y b =>
        rw [List.map_cons, List.map_cons, PyData.eqvAll, ih]
        rw [Bool.eq_iff_iff]
        simp [PyData.eqv]
  intro a b
  unfold strsD
  rw [PyData.eqv]
  exact all
theorem any_strsD {rs : List (List Str)} {r : List Str} : ((rs.map strsD).any fun z => PyData.eqv z (strsD r)) = decide (r ∈ rs) := by
  rw [Bool.eq_iff_iff, List.any_eq_true, decide_eq_true_iff]
  constructor
  · rintro ⟨z, hz, e⟩
    obtain ⟨y, hy, rfl⟩ := List.mem_map.mp hz
    rw [eqv_strs] at e
    exact of_decide_eq_true e ▸ hy
  · intro h
    exact ⟨strsD r, List.mem_map.mpr ⟨r, h, rfl⟩, by rw [eqv_strs]; exact decide_eq_true rfl⟩
end Ft
set_option Elab.async false
set_option linter.all false
set_option maxRecDepth 100000
set_option maxHeartbeats 1000000
set_option pp.maxSteps 2500
namespace Ft
open PySem L2 PySem.W
section
variable {P : Program} {w : World} {K : PySem.W.Frag} {mg : Str → Option Value} {base : Heap}
abbrev sRings : Stmt := topS 4
theorem scRings : FnScope ["program", "modules", "reached", "module", "found", "ring", "other"] ["program"] (defScope sRings) := ⟨rfl, rfl, rfl, by decide +kernel, rfl, by decide +kernel, by decide +kernel⟩
theorem hu65x {k : Nat} {A : Around} (h : Room k A) : A.units + 65 < cLine := by have := h.un; omega
open Classical in
/-- who is reached from m and reaches it -/
noncomputable def ring55 (lib : Lib) (ws : List Str) (m : Str) : List Str := ws.filter fun o => decide (Via (nm55 lib) (lib.map (·.1)) m o ∧ Via (nm55 lib) (lib.map (·.1)) o m)
open Classical in
theorem ring55_no {lib : Lib} {ws : List Str} {m o : Str} (c : ¬ (Via (nm55 lib) (lib.map (·.1)) m o ∧ Via (nm55 lib) (lib.map (·.1)) o m)) : ring55 lib (ws ++ [o]) m = ring55 lib ws m := by
  unfold ring55
  rw [List.filter_append, List.filter_cons_of_neg (by simp only [decide_eq_true_eq]; exact c)]
  exact List.append_nil _
open Classical in
theorem ring55_yes {lib : Lib} {ws : List Str} {m o : Str} (c : Via (nm55 lib) (lib.map (·.1)) m o ∧ Via (nm55 lib) (lib.map (·.1)) o m) : ring55 lib (ws ++ [o]) m = ring55 lib ws m ++ [o] := by
  unfold ring55
  rw [List.filter_append, List.filter_cons_of_pos (by simp only [decide_eq_true_eq]; exact c)]
  rfl
open Classical in
theorem ring55_sub {lib : Lib} {ws : List Str} {m z : Str} (h : z ∈ ring55 lib ws m) : z ∈ ws := (List.mem_filter.mp h).1
open Classical in
theorem ring55_len {lib : Lib} {ws : List Str} {m : Str} : (ring55 lib ws m).length ≤ ws.length := List.length_filter_le _ _
noncomputable def rings55 (lib : Lib) (ws : List Str) : List (List Str) := (once (ws.map (ring55 lib ws))).mergeSort (PySem.W.dataLe false strsD)
def RgAt (O : Addr → Prop) (H : Hp) (v : V) (r : List Str) : Prop := ∃ a, v = .ref a ∧ O a ∧ H a = some (.lst (r.map V.str))
def spRings (C : Addr) : Sp := fun vs H Q _ => ∃ (px rd : Addr) (kvs : List (Key × V)) (lib : Lib), vs = [.ref px] ∧ Prog55 H C px rd kvs lib ∧
  ∀ (H' : Hp) (L : Addr) (us : List V) (ws : List Str), ws.Perm (lib.map (·.1)) → PyProof.Rows.sortedS ws = true → Same H H' → H L = none → H' L = some (.lst us) → Paired (RgAt (fun a => H a = none ∧ a ≠ L) H') us (rings55 lib ws) → Q (.ref L) H'
/-- the list of what m reaches -/
def RcAt (O : Addr → Prop) (H : Hp) (lib : Lib) (v : V) (m : Str) : Prop := ∃ (a : Addr) (f : List Str), v = .ref a ∧ O a ∧ H a = some (.lst (f.map V.str)) ∧ f.length ≤ 8 ∧ ∀ b, b ∈ f ↔ b ∈ lib.map (·.1) ∧ Via (nm55 lib) (lib.map (·.1)) m b
theorem RcAt.to {O O' : Addr → Prop} {H H' : Hp} {lib : Lib} {v : V} {m : Str} (h : RcAt O H lib v m) (k : ∀ a xs, O a → H a = some (.lst xs) → O' a ∧ H' a = some (.lst xs)) : RcAt O' H' lib v m := by
  obtain ⟨a, f, e, o, h, r⟩ := h
  obtain ⟨o', h'⟩ := k _ _ o h
  exact ⟨a, f, e, o', h', r⟩
theorem dpAll_rg {K : PySem.W.Frag} {O : Addr → Prop} {H : Hp} : ∀ {us : List V} {rs : List (List Str)}, Paired (RgAt O H) us rs → DpAll K H us (rs.map strsD)
  | _, _, .nil => .nil
  | _, _, .cons ⟨a, e, o, h⟩ t => .cons (e ▸ .lst (SqL.of h) (dpAll_strs _)) (dpAll_rg t)
theorem once_len {α : Type} [DecidableEq α] (xs : List (List α)) : (once xs).length ≤ xs.length := by
  have key : ∀ (n : Nat) (xs : List (List α)), xs.length = n → (once xs).length ≤ xs.length := by
    intro n
    induction n with
    | zero => intro xs h; rw [List.length_eq_zero_iff.mp h]; exact Nat.le_refl _
    | succ n ih =>
      intro xs h
      obtain ⟨ys, y, rfl⟩ : ∃ ys y, xs = ys ++ [y] := ⟨xs.dropLast, xs.getLast (by intro e; rw [e] at h; cases h), (List.dropLast_concat_getLast _).symm⟩
      have hl : ys.length = n := by rw [List.length_append, List.length_singleton] at h; omega
      have i := ih ys hl
      rw [once_app, List.length_append, List.length_singleton]
      split
      · rw [List.length_append, List.length_singleton]; omega
      · omega
  exact key _ xs rfl
theorem zip_rg {O : Addr → Prop} {H : Hp} : ∀ {us : List V} {rs : List (List Str)}, Paired (RgAt O H) us rs → ∀ q ∈ us.zip rs, RgAt O H q.1 q.2
  | _, _, .nil, _, h => nomatch h
  | _, _, .cons r t, q, h => (List.mem_cons.mp h).elim (fun e => e ▸ r) fun h => zip_rg t q h
theorem paired_fs {α β : Type} {R : α → β → Prop} : ∀ {l : List (α × β)}, (∀ q ∈ l, R q.1 q.2) → Paired R (l.map (·.1)) (l.map (·.2))
  | [], _ => .nil
  | q :: l, h => .cons (h q (by simp)) (paired_fs fun x hx => h x (by simp [hx]))
theorem alike_strsD {a b : List Str} : alike (strsD a) (strsD b) = true := by
  have all : ∀ (p q : List Str), alikeAll (p.map PyData.str) (q.map PyData.str) = true := by
    intro p
    induction p with
    | nil => intro q; rw [List.map_nil]; unfold alikeAll; rfl
    | cons x p ih =>
      intro q
      cases q with
      | nil => rw [List.map_nil, List.map_cons]; unfold alikeAll; rfl
      | cons y q => rw [List.map_cons, List.map_cons, alikeAll, ih q, alike]; rfl
  unfold strsD
  rw [alike]
  exact all a b
def TAt55 (H : Hp) (t : Addr) (q : Str × V) : Prop := H t = some (.tup [.str q.1, q.2])
theorem mergeK_nd55 : ∀ {more acc : List (Key × V)}, ((acc ++ more).map (·.1)).Nodup → mergeK acc more = acc ++ more
  | [], acc, _ => (List.append_nil acc).symm
  | kv :: more, acc, h => by
    show mergeK (putK acc kv.1 kv.2) more = _
    have hk : kv.1 ∉ acc.map (·.1) := by
      rw [List.map_append, List.nodup_append] at h
      exact fun z => h.2.2 _ z _ (by simp) rfl
    have hp : putK acc kv.1 kv.2 = acc ++ [(kv.1, kv.2)] := by
      unfold putK
      rw [if_neg]
      intro z
      obtain ⟨y, hy, e⟩ := List.any_eq_true.mp z
      exact hk (List.mem_map.mpr ⟨y, hy, of_decide_eq_true e⟩)
    rw [hp, mergeK_nd55 (by rw [List.append_assoc]; exact h), List.append_assoc]
    rfl
theorem zip55 : ∀ {ws : List Str} {vs : List V}, ws.length = vs.length → ((ws.zip vs).map fun q => ((Sum.inr q.1 : Key), q.2)).map (·.1) = ws.map Sum.inr
  | [], _, _ => rfl
  | _ :: _, [], h => nomatch h
  | w :: ws, v :: vs, h => congrArg (Sum.inr w :: ·) (zip55 (Nat.succ.inj h))
theorem paired_mapR55 {α β γ : Type} {R : α → β → Prop} {S : α → γ → Prop} {g : β → γ} : ∀ {xs : List α} {ys : List β}, Paired R xs ys → (∀ x y, R x y → S x (g y)) → Paired S xs (ys.map g)
  | _, _, .nil, _ => .nil
  | _, _, .cons r t, h => .cons (h _ _ r) (paired_mapR55 t h)
/-- the list of what m reaches, out of the dict -/
theorem reached55 {O : Addr → Prop} {H : Hp} {lib : Lib} {m : Str} : ∀ {ws : List Str} {vs : List V}, Paired (RcAt O H lib) vs ws → m ∈ ws → ∃ v, valV ((ws.zip vs).map fun q => ((Sum.inr q.1 : Key), q.2)) (Sum.inr m) = some v ∧ RcAt O H lib v m
  | _, _, .nil, h => nomatch h
  | w :: ws, v :: vs, .cons r t, h => by
    by_cases c : w = m
    · exact ⟨v, valV_pos (congrArg Sum.inr c), c ▸ r⟩
    · rw [List.zip_cons_cons, List.map_cons]
      obtain ⟨u, e, q⟩ := reached55 (m := m) t ((List.mem_cons.mp h).resolve_left fun z => c z.symm)
      exact ⟨u, (valV_neg fun z => c (Sum.inr.inj z)).trans e, q⟩
theorem ok_Rings {f C : Addr} {fd : FuncData} {k : Nat} (F : Fun K "rings" "rings" sRings f fd) (B : Bl mg) (PC : PCls K mg C) (hk : 6 ≤ k)
    (gReachedFrom : Own P w K mg base 6 "reached_from" ["program", "module"] (spReached C)) : FnOk P w K mg base CX0 (k + 1) f fd ["program"] (spRings C) := by
  refine F.ok scRings (fun vs H Q E h => ?_) (fun cdv A outer s H vs Q E hr h => ?_)
  · obtain ⟨px, rd, kvs, lib, rfl, _⟩ := h
    rfl
  obtain ⟨px, rd, kvs, lib, rfl, hP, q⟩ := h
  refine ⟨_, (pss_cons (ps_set (i := 1) scRings.nd rfl (by first | exact Or.inl rfl | exact Or.inr rfl) (pe_callB (call_sortedD rfl) (by rfl) B.sorted (by decide +kernel) (pa_cons (pe_fld (pv 0) rfl) pa_nil)))
      (pss_cons (ps_set (i := 2) scRings.nd rfl (by first | exact Or.inl rfl | exact Or.inr rfl) (pe_callTy (call_dictP rfl) (by rfl) B.dict (by decide +kernel) (pa_cons (pe_lc (own := [("module", 3)]) (g := (gName 3)) (tt := tYes) (by rfl) scRings.nd (pi_list (pv 1)) (blkOk_by (own := [("module", 3)]) (N := ["program", "modules", "reached", "module", "found", "ring", "other"]) (sc := defScope sRings) (by decide +kernel)) (fun _ _ _ _ _ => (pg_name (i := 3) scRings.nd rfl (by first | exact Or.inl rfl | exact Or.inr rfl))) (fun _ _ _ _ _ => pts_nil) (fun _ _ _ _ _ => (pe_tup (pa_cons (pv 3) (pa_cons (pe_own gReachedFrom (hr.mono (by omega)) (by rfl) (pa_cons (pv 0) (pa_cons (pv 3) pa_nil))) pa_nil))))) pa_nil)))
      (pss_cons (ps_set (i := 4) scRings.nd rfl (by first | exact Or.inl rfl | exact Or.inr rfl) (pe_lst pa_nil))
      (pss_cons (ps_for PassesOwn.never rfl (pi_list (pv 1)) (pg_name (i := 3) scRings.nd rfl (by first | exact Or.inl rfl | exact Or.inr rfl)) (pss_cons (ps_setLc (i := 5) (own := [("other", 6)]) (g := (gName 6)) (by rfl) scRings.nd rfl rfl (sw_true rfl rfl rfl (by decide +kernel)) (pi_list (pv 1)) (blkOk_by (own := [("other", 6)]) (N := ["program", "modules", "reached", "module", "found", "ring", "other"]) (sc := defScope sRings) (by decide +kernel)) (fun _ _ _ _ _ => (pg_name (i := 6) scRings.nd rfl (by first | exact Or.inl rfl | exact Or.inr rfl))) (fun _ _ _ _ _ => (pts_one (PW.pt (pw_and (pt_cmpR (opK (K := K) (fun K => rIn K false) op_in_seq rfl) (pv 6) (pe_dget (hu_of hr) (pv 2) (pv 3) (fun _ _ => rfl)) (by rfl)) (pw_and1 (pt_cmpR (opK (K := K) (fun K => rIn K false) op_in_seq rfl) (pv 3) (pe_dget (hu_of hr) (pv 2) (pv 6) (fun _ _ => rfl)) (by rfl))))))) (fun _ _ _ _ _ => (pv 6)))
      (pss_one (ps_if (PW.pt (pw_and (pt_cmpR (op_neD hr.units) (pv 5) (pe_lst pa_nil) (nomark _)) (pw_and1 (pt_cmpR (op_ninL (hu65x hr)) (pv 5) (pv 4) (by rfl))))) (pss_one (ps_expr (pe_bm PySem.F.plainAttrs_list PySem.F.slot_list_append PySem.F.type_list_append mt_append (pv 4) (pa_cons (pv 5) pa_nil)))) pss_nil))))
      (pss_one (ps_ret (pe_callB (cr_sortedDD hr.units) (by rfl) B.sorted (by decide +kernel) (pa_cons (pv 4) pa_nil)))))))), ?_⟩
  obtain ⟨pdx, sv, hpx⟩ := hP.at_
  refine ⟨_, rfl, px, C, pdx, _, .ref rd, rfl, hpx, PC.cl, PC.nR, rfl, rd, kvs, lib.map (·.1), rfl, .inl hP.d, libAt_keys hP.l, (by have := hP.r.few; rw [List.length_map]; omega), fun ws p perm srt np => ?_⟩
  have s1 : Same H (upd H p (.lst (ws.map V.str))) := Same.new np
  have hp : (upd H p (.lst (ws.map V.str))) p = some (.lst (ws.map V.str)) := upd_same
  generalize upd H p _ = H1 at *
  have lws : ws.length ≤ 8 := by rw [perm.length_eq, List.length_map]; exact hP.r.few
  refine ⟨_, rfl, p, rfl, ⟨_, SqL.of hp⟩, fun D nD => ?_⟩
  have DnH : H D = none := Same.free s1 nD
  refine lc_it (walk_list (xs := ws.map V.str)) (fun j H' => Same H1 H' ∧ ∃ ts vs, H' D = some (.lst (ts.map V.ref)) ∧ Paired (TAt55 H') ts ((ws.take j).zip vs) ∧ Paired (RcAt (fun a => H1 a = none ∧ a ≠ D) H' lib) vs (ws.take j))
    ⟨Same.new nD, [], [], upd_same, .nil, .nil⟩ (fun j H' _ ⟨sm, _⟩ => SqL.of (sm _ _ hp)) ?_ ?_
  · rintro j y H2 H3 hj ⟨s2, ts, vs, hD, hts, hvs⟩ ⟨rfl, hy⟩
    rw [List.getElem?_map] at hy
    cases em : ws[j]? with
    | none => rw [em] at hy; cases hy
    | some m =>
    rw [em] at hy
    cases Option.some.inj hy
    have s12 := Same.trans s1 s2
    have hm : m ∈ lib.map (·.1) := perm.mem_iff.mp (List.mem_of_getElem? em)
    refine ⟨rfl, _, rfl, _, rfl, _, rfl, px, rd, kvs, lib, m, rfl, hP.same s12, hm, fun H4 l f s34 nl hl f8 hf => ⟨(by show 2 ≤ sizeLine; decide), fun t nt => ?_⟩⟩
    have s5 : Same H4 (upd H4 t (.tup [.str m, .ref l])) := Same.new nt
    have ht : (upd H4 t (.tup [.str m, .ref l])) t = some (.tup [.str m, .ref l]) := upd_same
    have hl5 := s5 _ _ hl
    have s35 := Same.trans s34 s5
    generalize upd H4 t _ = H5 at *
    have hD5 := s35 _ _ hD
    have et : ws.take (j + 1) = ws.take j ++ [m] := by rw [List.take_add_one, em]; rfl
    have lv : (ws.take j).length = vs.length := (paired_len hvs).symm
    have lD : l ≠ D := fun z => by rw [z, hD] at nl; cases nl
    have kt : ∀ b xs, H5 b = some (.tup xs) → (upd H5 D (.lst (ts.map V.ref ++ [.ref t]))) b = some (.tup xs) := fun b xs e => by
      rw [upd_ne fun z => ?_]
      · exact e
      · rw [z, hD5] at e; cases e
    have lts : ts.length ≤ 8 := by
      have := paired_len hts
      rw [List.length_zip, List.length_take] at this
      omega
    refine ⟨ts.map V.ref, hD5, small (by rw [List.length_map]; omega), Same.upN (Same.trans s2 s35) nD, ts ++ [t], vs ++ [.ref l], by rw [upd_same, List.map_append]; rfl, ?_, ?_⟩
    · rw [et, List.zip_append lv]
      exact paired_app (show TAt55 _ _ (m, V.ref l) from kt _ _ ht) (paired_imp hts fun t q (e : TAt55 H3 t q) => (kt _ _ (s35 _ _ e) : TAt55 _ t q))
    · rw [et]
      refine paired_app ⟨l, f, rfl, ⟨Same.free s2 nl, lD⟩, by rw [upd_ne lD]; exact hl5, f8, hf⟩ (paired_imp hvs fun v q e => e.to fun a xs o e => ⟨o, by rw [upd_ne o.2]; exact s35 _ _ e⟩)
  rintro H2 ⟨s2, ts, vs, hD, hts, hvs⟩
  rw [List.length_map, List.take_length] at hts hvs
  have nws : ws.Nodup := perm.nodup_iff.mpr hP.r.nd
  have lvs := paired_len hvs
  refine ⟨D, ts, (ws.zip vs).map fun q => (Sum.inr q.1, q.2), rfl, SqL.of hD, ?_, fun dr ndr => ?_⟩
  · exact paired_mapR55 hts fun t q (e : TAt55 H2 t q) => SqT.of e
  rw [mergeK_nd55 (by rw [List.nil_append, zip55 lvs.symm]; exact List.Pairwise.map Sum.inr (fun a b ne h => ne (Sum.inr.inj h)) nws), List.nil_append]
  have s3 : Same H2 (upd H2 dr (.dK ((ws.zip vs).map fun q => (Sum.inr q.1, q.2)))) := Same.new ndr
  have hdr : (upd H2 dr (.dK ((ws.zip vs).map fun q => (Sum.inr q.1, q.2)))) dr = some (.dK ((ws.zip vs).map fun q => (Sum.inr q.1, q.2))) := upd_same
  generalize upd H2 dr _ = H3 at *
  have hRc3 : Paired (RcAt (fun a => H1 a = none ∧ a ≠ D) H3 lib) vs ws := paired_imp hvs fun v q e => e.to fun a xs o e => ⟨o, s3 _ _ e⟩
  refine ⟨Nat.zero_le _, fun L nL => ?_⟩
  have s4 : Same H3 (upd H3 L (.lst [])) := Same.new nL
  have hL : (upd H3 L (.lst [])) L = some (.lst []) := upd_same
  generalize upd H3 L _ = H4 at *
  have hp3 : H3 p = some (.lst (ws.map V.str)) := s3 _ _ (s2 _ _ hp)
  have pL : p ≠ L := fun z => by rw [z, nL] at hp3; cases hp3
  have drL : dr ≠ L := fun z => by rw [z, nL] at hdr; cases hdr
  have sH3 : Same H H3 := Same.trans s1 (Same.trans s2 s3)
  have LnH : H L = none := Same.free sH3 nL
  have isw : ∀ z ∈ ws, isW z = true := fun z hz => by
    obtain ⟨q, hq, rfl⟩ := List.mem_map.mp (perm.mem_iff.mp hz)
    exact hP.r.word q hq
  refine ⟨_, rfl, p, rfl, ⟨_, SqL.of (s4 _ _ hp3)⟩, ?_⟩
  refine for_it (walk_list (xs := ws.map V.str)) (fun i σ H' => (∃ v3 v5 v6, σ = [some (.ref px), some (.ref p), some (.ref dr), v3, some (.ref L), v5, v6]) ∧ Fr (· ≠ L) H3 H' ∧ ∃ us, H' L = some (.lst us) ∧ Paired (RgAt (fun a => H a = none ∧ a ≠ L) H') us (once ((ws.take i).map (ring55 lib ws))))
    ⟨⟨_, _, _, rfl⟩, Fr.same s4, [], hL, .nil⟩ (fun i σ H' _ ⟨_, fr, _⟩ => SqL.of (fr _ _ pL hp3)) ?_ ?_
  · rintro i y σ H5 H6 hi ⟨⟨v3, v5, v6, rfl⟩, f5, us, hus, prs⟩ ⟨rfl, hy⟩
    rw [List.getElem?_map] at hy
    cases em : ws[i]? with
    | none => rw [em] at hy; cases hy
    | some m =>
    rw [em] at hy
    cases Option.some.inj hy
    have hm := List.mem_of_getElem? em
    refine ⟨_, rfl, p, rfl, ⟨_, SqL.of (f5 _ _ pL hp3)⟩, fun R nR => ?_⟩
    refine lc_it (walk_list (xs := ws.map V.str)) (fun j H' => Same H6 H' ∧ H' R = some (.lst ((ring55 lib (ws.take j) m).map V.str)))
      ⟨Same.new nR, upd_same⟩ (fun j H' _ ⟨sm, _⟩ => SqL.of (sm _ _ (f5 _ _ pL hp3))) ?_ ?_
    · rintro j y H7 H8 hj ⟨s7, hR⟩ ⟨rfl, hy⟩
      rw [List.getElem?_map] at hy
      cases eo : ws[j]? with
      | none => rw [eo] at hy; cases hy
      | some o =>
      rw [eo] at hy
      cases Option.some.inj hy
      have ho := List.mem_of_getElem? eo
      have at8 : ∀ b u, b ≠ L → H3 b = some u → H8 b = some u := fun b u k e => s7 _ _ (f5 _ _ k e)
      have one : ∀ x ∈ ws, ∃ (v : V) (a : Addr) (f : List Str), v = .ref a ∧ DGet H8 dr (.str x) (some v) ∧ H8 a = some (.lst (f.map V.str)) ∧ ∀ b, b ∈ f ↔ b ∈ lib.map (·.1) ∧ Via (nm55 lib) (lib.map (·.1)) x b := fun x hx => by
        obtain ⟨v, hv, a, f, rfl, _, ha, _, hf⟩ := reached55 (m := x) hRc3 hx
        refine ⟨_, a, f, rfl, ?_, at8 _ _ (fun z => by rw [z, nL] at ha; cases ha) ha, hf⟩
        rw [← hv]
        exact DGet.k (k := Sum.inr x) (at8 _ _ drL hdr)
      obtain ⟨_, a1, f1, rfl, dg1, ha1, hf1⟩ := one m hm
      obtain ⟨_, a2, f2, rfl, dg2, ha2, hf2⟩ := one o ho
      have hon := perm.mem_iff.mp ho
      have hmn := perm.mem_iff.mp hm
      have et : ws.take (j + 1) = ws.take j ++ [o] := by rw [List.take_add_one, eo]; rfl
      have no : ¬ (Via (nm55 lib) (lib.map (·.1)) m o ∧ Via (nm55 lib) (lib.map (·.1)) o m) → ring55 lib (ws.take (j + 1)) m = ring55 lib (ws.take j) m := fun c => by rw [et, ring55_no c]
      refine ⟨rfl, _, rfl, _, rfl, _, rfl, dr, _, rfl, dg1, a1, _, rfl, .inl (SqL.of ha1), rfl, flat55 _, _, rfl, ?_⟩
      rw [inV_iff]
      by_cases c1 : o ∈ f1
      · rw [decide_eq_true c1]
        refine iteT ⟨_, rfl, _, rfl, _, rfl, dr, _, rfl, dg2, a2, _, rfl, .inl (SqL.of ha2), rfl, flat55 _, _, rfl, ?_⟩
        rw [inV_iff]
        by_cases c2 : m ∈ f2
        · rw [decide_eq_true c2]
          have yes : ring55 lib (ws.take (j + 1)) m = ring55 lib (ws.take j) m ++ [o] := by
            rw [et, ring55_yes ⟨((hf1 o).mp c1).2, ((hf2 m).mp c2).2⟩]
          refine iteT ⟨_, rfl, _, hR, small ?_, Same.upN s7 nR, ?_⟩
          · have h1 : (ring55 lib (ws.take j) m).length ≤ (ws.take j).length := ring55_len
            rw [List.length_take] at h1
            rw [List.length_map]; omega
          · rw [upd_same, yes, List.map_append]; rfl
        · rw [decide_eq_false c2]
          exact iteF ⟨s7, by rw [no fun z => c2 ((hf2 m).mpr ⟨hmn, z.2⟩)]; exact hR⟩
      · rw [decide_eq_false c1]
        exact iteF (iteF ⟨s7, by rw [no fun z => c1 ((hf1 o).mpr ⟨hon, z.1⟩)]; exact hR⟩)
    rintro H7 ⟨s7, hR⟩
    rw [List.length_map, List.take_length] at hR
    have rw_ : ∀ z ∈ ring55 lib ws m, isW z = true := fun z hz => isw z (ring55_sub hz)
    have RL : R ≠ L := fun z => by rw [z, hus] at nR; cases nR
    have et : ws.take (i + 1) = ws.take i ++ [m] := by rw [List.take_add_one, em]; rfl
    refine ⟨_, rfl, Nat.zero_le _, fun e ne => ?_⟩
    have s8 : Same H7 (upd H7 e (.lst [])) := Same.new ne
    have he : (upd H7 e (.lst [])) e = some (.lst []) := upd_same
    generalize upd H7 e _ = H8 at *
    have s68 := Same.trans s7 s8
    have hR8 := s8 _ _ hR
    have hus8 := s68 _ _ hus
    refine ⟨_, _, .lst (SqL.of hR8) (dpAll_strs (ring55 lib ws m)), .lst (SqL.of he) .nil, shaped_strs rw_, rfl, _, rfl, ?_⟩
    rw [eqv_nil]
    have once_ : ∀ r ∈ once ((ws.take i).map (ring55 lib ws)), ∀ z ∈ r, isW z = true := fun r hr z hz => by
      obtain ⟨h1, _⟩ := (once_mem _ r).mp hr
      obtain ⟨m', _, rfl⟩ := List.mem_map.mp h1
      exact isw z (ring55_sub hz)
    have ap := once_app ((ws.take i).map (ring55 lib ws)) (ring55 lib ws m)
    have e8 : (ws.take (i + 1)).map (ring55 lib ws) = (ws.take i).map (ring55 lib ws) ++ [ring55 lib ws m] := by rw [et, List.map_append]; rfl
    have f8 : Fr (· ≠ L) H3 H8 := f5.trans (Fr.same s68)
    have keep8 : Paired (RgAt (fun a => H a = none ∧ a ≠ L) H8) us (once ((ws.take i).map (ring55 lib ws))) := paired_imp prs fun v r ⟨b, e, o, h⟩ => ⟨b, e, o, s68 _ _ h⟩
    cases hne : (ring55 lib ws m).isEmpty with
    | true =>
      have e0 : ring55 lib ws m = [] := List.isEmpty_iff.mp hne
      refine iteF (iteF ⟨⟨_, _, _, rfl⟩, f8, us, hus8, ?_⟩)
      rw [e8, ap, if_neg fun z => z.1 e0]
      exact keep8
    | false =>
      have e0 : ring55 lib ws m ≠ [] := fun z => by rw [z] at hne; cases hne
      refine iteT ⟨_, rfl, _, rfl, _, _, .lst (SqL.of hR8) (dpAll_strs (ring55 lib ws m)), .lst (SqL.of hus8) (dpAll_rg keep8), shaped_strs rw_, shaped_strsD once_, _, rfl, ?_⟩
      rw [show (((once ((ws.take i).map (ring55 lib ws))).map strsD).any fun z => PyData.eqv z (.list ((ring55 lib ws m).map PyData.str))) = decide (ring55 lib ws m ∈ once ((ws.take i).map (ring55 lib ws))) from any_strsD]
      by_cases c : ring55 lib ws m ∈ once ((ws.take i).map (ring55 lib ws))
      · rw [decide_eq_true c]
        refine iteF ⟨⟨_, _, _, rfl⟩, f8, us, hus8, ?_⟩
        rw [e8, ap, if_neg fun z => z.2 c]
        exact keep8
      · rw [decide_eq_false c]
        refine iteT ⟨_, rfl, .inl ⟨rfl, _, SqL.of hus8⟩, _, rfl, L, us, _, rfl, rfl, hus8, small ?_, ⟨_, _, _, rfl⟩, ?_, us ++ [.ref R], upd_same, ?_⟩
        · rw [paired_len prs]
          have := once_len ((ws.take i).map (ring55 lib ws))
          rw [List.length_map, List.length_take] at this
          omega
        · exact f8.trans (Fr.put fun z => z rfl)
        · rw [e8, ap, if_pos ⟨e0, c⟩]
          have RH : H R = none := Same.free (Same.trans sH3 (Same.refl _)) (by
            cases hz : H3 R with
            | none => rfl
            | some o => rw [f5 _ _ RL hz] at nR; cases nR)
          exact paired_app ⟨R, rfl, ⟨RH, RL⟩, by rw [upd_ne RL]; exact hR8⟩ (paired_imp keep8 fun v r ⟨b, e, o, h⟩ => ⟨b, e, o, by rw [upd_ne o.2]; exact h⟩)
  rintro σ H5 ⟨⟨v3, v5, v6, rfl⟩, f5, us, hus, prs⟩
  rw [List.length_map, List.take_length] at prs
  have lu := paired_len prs
  generalize hrs : once (ws.map (ring55 lib ws)) = rs at *
  have sHL : Same H H5 := fun b o e => f5 _ _ (ne_of_none e LnH) (sH3 _ _ e)
  have e1 : (((us.zip rs).map fun q => (q.1, strsD q.2)).map (·.1)) = us := by
    rw [List.map_map]
    exact List.map_fst_zip (by omega)
  have mem : ∀ q ∈ us.zip rs, RgAt (fun a => H a = none ∧ a ≠ L) H5 q.1 q.2 := zip_rg prs
  refine ⟨_, rfl, L, (us.zip rs).map fun q => (q.1, strsD q.2), rfl, e1.symm ▸ SqL.of hus, fun b hb => ?_, ?_, ?_, fun b hb => ?_, fun m nm => ?_⟩
  · obtain ⟨q, hq, rfl⟩ := List.mem_map.mp hb
    obtain ⟨a, e, _, h⟩ := mem q hq
    show Dp _ _ q.1 (strsD q.2)
    rw [e]
    exact .lst (SqL.of h) (dpAll_strs _)
  · rw [List.map_map]
    exact AllAlike.of (enc := fun q : V × List Str => strsD q.2) fun q q' => alike_strsD
  · refine .inr fun d hd => ?_
    rw [List.map_map] at hd
    obtain ⟨q, _, rfl⟩ := List.mem_map.mp hd
    exact ⟨(fun z => nomatch z), fun xs z => nomatch z⟩
  · obtain ⟨q, _, rfl⟩ := List.mem_map.mp hb
    show (strsD q.2).depth ≤ 60
    unfold strsD
    rw [PyData.depth, depth_strs]; decide
  · have m1 : ((us.zip rs).mergeSort (dataLe false fun q : V × List Str => strsD q.2)).map (fun q => (q.1, strsD q.2)) = ((us.zip rs).map fun q => (q.1, strsD q.2)).mergeSort (dataLe false fun b : V × PyData => b.2) := List.map_mergeSort fun _ _ _ _ => rfl
    have m2 : ((us.zip rs).mergeSort (dataLe false fun q : V × List Str => strsD q.2)).map (·.2) = rs.mergeSort (dataLe false strsD) := (List.map_mergeSort (r := dataLe false fun q : V × List Str => strsD q.2) (s := dataLe false strsD) (f := fun q : V × List Str => q.2) (l := us.zip rs) fun _ _ _ _ => rfl).trans (by rw [List.map_snd_zip (by omega)])
    have nL5 : m ≠ L := fun z => by rw [z, hus] at nm; cases nm
    have e3 : (((us.zip rs).mergeSort (dataLe false fun q : V × List Str => strsD q.2)).map (fun q => (q.1, strsD q.2))).map (·.1) = ((us.zip rs).mergeSort (dataLe false fun q : V × List Str => strsD q.2)).map (·.1) := by rw [List.map_map]; rfl
    have s6 : Same H5 (upd H5 m (.lst (((us.zip rs).mergeSort (dataLe false fun q : V × List Str => strsD q.2)).map (·.1)))) := Same.new nm
    rw [← m1, e3]
    refine q _ m _ ws perm srt (Same.trans sHL s6) (Same.free sHL nm) upd_same ?_
    unfold rings55
    rw [hrs, ← m2]
    exact paired_fs fun q hq => by
      obtain ⟨a, e, o, h⟩ := mem q ((List.mergeSort_perm _ _).mem_iff.mp hq)
      exact ⟨a, e, ⟨o.1, fun z => by rw [z, nm] at h; cases h⟩, s6 _ _ h⟩
end
end Ft
set_option Elab.async false
set_option linter.all false
set_option maxRecDepth 100000
set_option maxHeartbeats 1000000
set_option pp.maxSteps 1500
namespace Ft
open PySem L2
section
variable {P : Program} {w : World} {K : PySem.W.Frag} {mg : Str → Option Value} {base : Heap}
abbrev sLWalked : Stmt := topS 38
theorem scLWalked : FnScope ["_law_rows", "_law_ahead", "_law_found", "_law_k", "_law_row", "_law_blocks", "_law_part", "_law_b", "_law_block"] ["_law_rows", "_law_ahead"] (defScope sLWalked) := ⟨rfl, rfl, rfl, by decide +kernel, rfl, by decide +kernel, by decide +kernel⟩
def spLWalked (d : Nat) : Sp := fun vs H Q _ => ∃ (v pv : V) (ok : Addr → Prop) (wi : Bool) (rs : List Row) (p : List Int), vs = [v, pv] ∧ RowsAt ok mixK H d v rs ∧ rs.length ≤ 24 ∧ (∀ r ∈ rs, RowOk d wi r) ∧ d ≤ 3 ∧ PathAt H pv p ∧ p.length + 2 * d ≤ 100 ∧
  ∀ H' l zs, Same H H' → H l = none → H' l = some (.lst zs) → Paired (WAt ok mixK H' d) zs (walkL d p rs) → Q (.ref l) H'
theorem ok_LWalked {f : Addr} {fd : FuncData} {k d : Nat} {spF : Sp} (F : Fun K "_law_walked" "_law_walked" sLWalked f fd) (B : Bl mg) (hk : 1 ≤ k)
    (gLWalked : Own P w K mg base k "_law_walked" ["_law_rows", "_law_ahead"] spF) (hF : ∀ e, d = e + 1 → spF = spLWalked e) : FnOk P w K mg base CX0 (k + 1) f fd ["_law_rows", "_law_ahead"] (spLWalked d) := by
  refine F.ok scLWalked (fun vs H Q E h => ?_) (fun cdv A outer s H vs Q E hr h => ?_)
  · obtain ⟨v, pv, ok, wi, rs, p, rfl, _⟩ := h
    rfl
  obtain ⟨v, pv, ok, wi, rs, p, rfl, hrs, hlen, hok, hd3, ⟨pa, rfl, hpa⟩, hpl, q⟩ := h
  refine ⟨_, (pss_cons (ps_set (i := 2) scLWalked.nd rfl (by first | exact Or.inl rfl | exact Or.inr rfl) (pe_lst pa_nil))
      (pss_cons (ps_for PassesOwn.never rfl (pi_enumQ (by rfl) B.enumerate (pa_cons (pv 0) pa_nil)) (pg_tup (by rfl) (pgs_cons (pg_name (i := 3) scLWalked.nd rfl (by first | exact Or.inl rfl | exact Or.inr rfl)) (pgs_cons (pg_name (i := 4) scLWalked.nd rfl (by first | exact Or.inl rfl | exact Or.inr rfl)) pgs_nil))) (pss_cons (ps_expr (pe_bm PySem.F.plainAttrs_list PySem.F.slot_list_append PySem.F.type_list_append mt_append (pv 2) (pa_cons (pe_tup (pa_cons (pe_mid (pe_op op_catA (pv 1) (pe_tup (pa_cons (pv 3) pa_nil)))) (pa_cons (pv 4) pa_nil))) pa_nil)))
      (pss_cons (ps_setLc (i := 5) (own := [("_law_part", 6)]) (g := (gName 6)) (by rfl) scLWalked.nd rfl rfl (sw_true rfl rfl rfl (by decide +kernel)) (pi_tup (pv 4)) (blkOk_by (own := [("_law_part", 6)]) (N := ["_law_rows", "_law_ahead", "_law_found", "_law_k", "_law_row", "_law_blocks", "_law_part", "_law_b", "_law_block"]) (sc := defScope sLWalked) (by decide +kernel)) (fun _ _ _ _ _ => (pg_name (i := 6) scLWalked.nd rfl (by first | exact Or.inl rfl | exact Or.inr rfl))) (fun _ _ _ _ _ => (pts_one (pt_val (pe_callB (callK (K := K) rIsiT call_isiT rfl) (by rfl) B.isinstance (by decide +kernel) (pa_cons (pv 6) (pa_cons (pe_tup (pa_cons (pe_bltn (v := .ty "list") (by rfl) B.list (by decide +kernel) rfl) (pa_cons (pe_bltn (v := .ty "tuple") (by rfl) B.tuple (by decide +kernel) rfl) pa_nil))) pa_nil)))))) (fun _ _ _ _ _ => (pv 6)))
      (pss_one (ps_for PassesOwn.never rfl (pi_enumQ (by rfl) B.enumerate (pa_cons (pv 5) pa_nil)) (pg_tup (by rfl) (pgs_cons (pg_name (i := 7) scLWalked.nd rfl (by first | exact Or.inl rfl | exact Or.inr rfl)) (pgs_cons (pg_name (i := 8) scLWalked.nd rfl (by first | exact Or.inl rfl | exact Or.inr rfl)) pgs_nil))) (pss_one (ps_expr (pe_bm PySem.F.plainAttrs_list PySem.F.slot_list_extend PySem.F.type_list_extend mt_extend (pv 2) (pa_cons (pe_own gLWalked (hr.mono (by omega)) (by rfl) (pa_cons (pv 8) (pa_cons (pe_mid (pe_op op_catA (pv 1) (pe_tup (pa_cons (pv 3) (pa_cons (pv 7) pa_nil))))) pa_nil))) pa_nil)))))))))
      (pss_one (ps_ret (pv 2))))), ?_⟩
  have c3 : cW d ≤ 37060 := by
    have : cW 3 = 37060 := by decide
    have h4 : d = 0 ∨ d = 1 ∨ d = 2 ∨ d = 3 := by omega
    rcases h4 with e | e | e | e <;> subst e <;> decide
  refine ⟨Nat.zero_le _, fun l nl => ?_⟩
  have s0 : Same H (upd H l (.lst [])) := Same.new nl
  have hrs2 : RowsAt (fun x => ok x ∧ x ≠ l) mixK H d v rs := hrs.to (Keep.mono fun x k hx => ⟨k, fun e => hx (by rw [e]; exact nl)⟩)
  obtain ⟨xs, ⟨a, kd, rfl, oka, kka, ha⟩, hxs⟩ := hrs2
  refine ⟨_, rfl, a, kd, xs, rfl, sq_of (s0 _ _ ha), ?_⟩
  refine for_it walk_enumQ (fun i σ H' => Same H H' ∧ (∃ v3 v4 v5 v6 v7 v8, σ = [some (.ref a), some (.ref pa), some (.ref l), v3, v4, v5, v6, v7, v8]) ∧ ∃ zs, H' l = some (.lst zs) ∧ Paired (WAt (fun x => ok x ∧ x ≠ l) mixK H' d) zs ((rs.zipIdx.take i).flatMap (rowW d p)))
    ⟨s0, ⟨none, none, none, none, none, none, rfl⟩, [], upd_same, .nil⟩ (fun i σ H' _ ⟨sm, _⟩ => sq_of (sm _ _ ha)) ?_ ?_
  · rintro i x σ H1 H2 hi ⟨sm, ⟨v3, v4, v5, v6, v7, v8, rfl⟩, zs, hl, hzs⟩ ⟨T, x1, x2, rfl, nT, rfl, e1, e2⟩
    have e1' : x1 = .int (i : Nat) := (Option.some.inj e1).symm
    subst e1'
    obtain ⟨r, hr', hrow⟩ := paired_get hxs e2
    have rok := hok r (List.mem_of_getElem? hr')
    have b3 := blocks_len rok
    have s2 : Same H1 (upd H1 T (.tup [.int (i : Nat), x2])) := Same.new nT
    refine ⟨T, _, rfl, SqT.of upd_same, rfl, _, _, rfl, _, _, rfl, rfl, ?_⟩
    have lz : zs.length ≤ 24 * cW d := by
      rw [paired_len hzs]
      have h1 : ((rs.zipIdx.take i).flatMap (rowW d p)).length ≤ (rs.zipIdx.take i).length * cW d := flat_len fun q hq => by
        obtain ⟨r', j⟩ := q
        exact rowW_len (hok r' (mem_zipIdx_fst (List.mem_of_mem_take hq))) _ _
      have h2 : (rs.zipIdx.take i).length ≤ 24 := by rw [List.length_take, List.length_zipIdx]; omega
      exact Nat.le_trans h1 (Nat.mul_le_mul_right _ h2)
    generalize hG : upd H1 T _ = G at *
    have sG : Same H G := Same.trans sm s2
    have hlG : G l = some (.lst zs) := s2 _ _ hl
    have hzsG := paired_imp hzs fun v q h => WAt.to h (KT.same s2)
    -- found.append((path + (k,), row))
    refine ⟨_, rfl, .inl ⟨rfl, _, SqL.of hlG⟩, ⟨fun v H' => ∃ b, v = .ref b ∧ H' b = some (.tup ((p ++ [(i : Int)]).map V.int)) ∧ Same G H', ?_, ?_⟩⟩
    · refine ⟨_, rfl, _, rfl, (by show 1 ≤ sizeLine; decide), fun t1 nt1 => ?_⟩
      refine ⟨pa, t1, p.map V.int, [.int (i : Nat)], rfl, rfl, SqT.of (Same.new nt1 _ _ (sG _ _ hpa)), SqT.of upd_same, smallE (by rw [List.length_map]; simp; omega), fun e => ?_, fun _ e => (nomatch e), fun _ _ t2 nt2 => ?_⟩
      · have ep : p = [] := List.map_eq_nil_iff.mp e
        subst ep
        exact ⟨t1, rfl, upd_same, Same.new nt1⟩
      · exact ⟨t2, rfl, by rw [upd_same, List.map_append]; rfl, Same.trans (Same.new nt1) (Same.new nt2)⟩
    rintro hv G1 ⟨hb, rfl, hhb, s3⟩
    refine ⟨_, rfl, (by show 2 ≤ sizeLine; decide), fun t3 nt3 => ?_⟩
    have s4 : Same G (upd G1 t3 (.tup [.ref hb, x2])) := Same.trans s3 (Same.new nt3)
    have hhb4 : (upd G1 t3 (.tup [.ref hb, x2])) hb = some (.tup ((p ++ [(i : Int)]).map V.int)) := Same.new nt3 _ _ hhb
    have ht3 : (upd G1 t3 (.tup [.ref hb, x2])) t3 = some (.tup [.ref hb, x2]) := upd_same
    generalize hG2 : upd G1 t3 _ = G2 at *
    have sG2 : Same H G2 := Same.trans sG s4
    have hl2 : G2 l = some (.lst zs) := s4 _ _ hlG
    refine ⟨l, zs, _, rfl, rfl, hl2, small (by omega), ?_⟩
    have kt2 : KT (fun x => ok x ∧ x ≠ l) (fun x => ok x ∧ x ≠ l) G2 (upd G2 l (.lst (zs ++ [.ref t3]))) := KT.lst hl2 (fun x k => k.2) fun x k => k
    have w3 : WAt (fun x => ok x ∧ x ≠ l) mixK G2 d (.ref t3) (p ++ [(i : Int)], r) := ⟨t3, _, _, rfl, ht3, ⟨hb, rfl, hhb4⟩, hrow.to (Keep.fr (Fr.same sG2) fun _ k => k)⟩
    have hzs3 : Paired (WAt (fun x => ok x ∧ x ≠ l) mixK (upd G2 l (.lst (zs ++ [.ref t3]))) d) (zs ++ [.ref t3]) ((rs.zipIdx.take i).flatMap (rowW d p) ++ [(p ++ [(i : Int)], r)]) :=
      paired_app (w3.to kt2) (paired_imp hzsG fun v q h => (h.to (KT.same s4)).to kt2)
    have hl3 : (upd G2 l (.lst (zs ++ [.ref t3]))) l = some (.lst (zs ++ [.ref t3])) := upd_same
    have sG3 : Same H (upd G2 l (.lst (zs ++ [.ref t3]))) := Same.upN sG2 nl
    generalize hG3 : upd G2 l _ = G3 at *
    -- the blocks
    have hrow3 : RowAt (fun x => ok x ∧ x ≠ l) mixK G3 d x2 r := hrow.to (Keep.fr (Fr.same sG3) fun _ k => k)
    obtain ⟨ra, fs, rfl, _, hra, lfs, _, hfs, hblk⟩ := row_vals3 hrow3 rok
    refine ⟨_, rfl, ra, rfl, ⟨_, SqT.of hra⟩, fun bl nb => ?_⟩
    refine lc_it walk_tup (fun j H' => Same G3 H' ∧ H' bl = some (.lst (((.str (rowWord r) :: fs).take j).filter isBk)))
      ⟨Same.new nb, upd_same⟩ (fun j H' _ ⟨fr, _⟩ => SqT.of (fr _ _ hra)) ?_ ?_
    · rintro j y H3 H4 hj ⟨s7, hD⟩ ⟨rfl, hy⟩
      have et : (V.str (rowWord r) :: fs).take (j + 1) = (V.str (rowWord r) :: fs).take j ++ [y] := by rw [List.take_add_one, hy]; rfl
      refine ⟨rfl, _, rfl, (by show 2 ≤ sizeLine; decide), fun t0 nt0 => ?_⟩
      have s8 : Same G3 (upd H4 t0 (.tup [.ty "list", .ty "tuple"])) := Same.trans s7 (Same.new nt0)
      have hD4 := Same.new (o := .tup [.ty "list", .ty "tuple"]) nt0 _ _ hD
      have vy : (∃ z, y = .str z) ∨ (∃ i, y = .int i) ∨ ∃ b kd ys, y = .ref b ∧ G3 b = some (mkO kd ys) := by
        rcases List.mem_cons.mp (List.mem_of_getElem? hy) with e | h
        · exact .inl ⟨_, e⟩
        · exact hfs y h
      rcases vy with ⟨z, rfl⟩ | ⟨z, rfl⟩ | ⟨b, kd, ys, rfl, hb'⟩
      · exact ⟨_, t0, _, _, _, _, rfl, upd_same, clsV_all ["list", "tuple"], .base (.str z), kitAny_of (by decide +kernel), false, rfl, iteF ⟨s8, by rw [filt_no hy rfl]; exact hD4⟩⟩
      · exact ⟨_, t0, _, _, _, _, rfl, upd_same, clsV_all ["list", "tuple"], .base (.int z), kitAny_of (by decide +kernel), false, rfl, iteF ⟨s8, by rw [filt_no hy rfl]; exact hD4⟩⟩
      · have fin : ∃ acc, (upd H4 t0 (.tup [.ty "list", .ty "tuple"])) bl = some (.lst acc) ∧ acc.length < sizeLine ∧ Same G3 (upd (upd H4 t0 (.tup [.ty "list", .ty "tuple"])) bl (.lst (acc ++ [.ref b]))) ∧ (upd (upd H4 t0 (.tup [.ty "list", .ty "tuple"])) bl (.lst (acc ++ [.ref b]))) bl = some (.lst (((.str (rowWord r) :: fs).take (j + 1)).filter isBk)) := by
          refine ⟨_, hD4, small ?_, Same.upN s8 nb, ?_⟩
          · have := List.length_filter_le isBk ((V.str (rowWord r) :: fs).take j); rw [List.length_take] at this; simp at this; omega
          · rw [upd_same, et, List.filter_append]; rfl
        cases kd with
        | true => exact ⟨_, t0, _, _, _, _, rfl, upd_same, clsV_all ["list", "tuple"], .base (.lst (s8 _ _ hb')), kitAny_of (by decide +kernel), true, rfl, iteT ⟨_, rfl, fin⟩⟩
        | false => exact ⟨_, t0, _, _, _, _, rfl, upd_same, clsV_all ["list", "tuple"], .base (.tup (s8 _ _ hb')), kitAny_of (by decide +kernel), true, rfl, iteT ⟨_, rfl, fin⟩⟩
    rintro G4 ⟨s5, hbl⟩
    rw [List.take_length, List.filter_cons_of_neg (by exact fun z => nomatch z)] at hbl
    have hys := hblk
    generalize hyy : fs.filter isBk = ys at *
    have lb : ys.length ≤ 3 := by rw [paired_len hys]; exact b3
    have lbl : bl ≠ l := fun e => by rw [e, hl3] at nb; cases nb
    refine ⟨_, rfl, bl, true, ys, rfl, sq_of (kd := true) hbl, ?_⟩
    have sG4 : Same H G4 := Same.trans sG3 s5
    refine for_it walk_enumQ (fun j σ H' => Same H H' ∧ H' bl = some (.lst ys) ∧ (∀ b xs, G3 b = some (.tup xs) → H' b = some (.tup xs)) ∧ (∃ v6 v7 v8, σ = [some (.ref a), some (.ref pa), some (.ref l), some (.int (i : Nat)), some (.ref ra), some (.ref bl), v6, v7, v8]) ∧
        ∃ zs, H' l = some (.lst zs) ∧ Paired (WAt (fun x => ok x ∧ x ≠ l) mixK H' d) zs ((rs.zipIdx.take i).flatMap (rowW d p) ++ [(p ++ [(i : Int)], r)] ++ ((blocks r).zipIdx.take j).flatMap (blkW d p i)) ∧ Keep (fun x => ok x ∧ x ≠ l) (fun x => ok x ∧ x ≠ l) G3 H')
      ⟨sG4, hbl, fun b xs e => s5 _ _ e, ⟨_, _, _, rfl⟩, zs ++ [.ref t3], s5 _ _ hl3, ?_, Keep.fr (Fr.same s5) fun _ k => k⟩ (fun j σ H' _ ⟨_, h, _⟩ => sq_of (kd := true) h) ?_ ?_
    · rw [List.take_zero, List.flatMap_nil, List.append_nil]
      exact paired_imp hzs3 fun v q h => h.to (KT.same s5)
    · rintro j y σ H3 H4 hj ⟨sm4, hbl4, htup4, ⟨w6, w7, w8, rfl⟩, zs4, hl4, hzs4, kp4⟩ ⟨T2, y1, y2, rfl, nT2, rfl, f1, f2⟩
      have f1' : y1 = .int (j : Nat) := (Option.some.inj f1).symm
      subst f1'
      obtain ⟨b, hb', e, rfl, hrows⟩ := paired_get hys f2
      have eF := hF e rfl
      subst eF
      obtain ⟨e', he', h8, hr8⟩ := blk_ok rok (List.mem_of_getElem? hb')
      have ee : e = e' := Nat.succ.inj he'
      subst ee
      have s6 : Same H3 (upd H3 T2 (.tup [.int (j : Nat), y2])) := Same.new nT2
      refine ⟨T2, _, rfl, SqT.of upd_same, rfl, _, _, rfl, _, _, rfl, rfl, ?_⟩
      generalize hG5 : upd H3 T2 _ = G5 at *
      have hl5 : G5 l = some (.lst zs4) := s6 _ _ hl4
      have sH5 : Same H G5 := Same.trans sm4 s6
      refine ⟨_, rfl, .inl ⟨rfl, _, SqL.of hl5⟩, _, rfl, ⟨fun v H' => ∃ c, v = .ref c ∧ H' c = some (.tup ((p ++ [(i : Int), (j : Int)]).map V.int)) ∧ Same G5 H', ?_, ?_⟩⟩
      · refine ⟨_, rfl, _, rfl, _, rfl, (by show 2 ≤ sizeLine; decide), fun t1 nt1 => ?_⟩
        refine ⟨pa, t1, p.map V.int, [.int (i : Nat), .int (j : Nat)], rfl, rfl, SqT.of (Same.new nt1 _ _ (sH5 _ _ hpa)), SqT.of upd_same, smallE (by rw [List.length_map]; simp; omega), fun e => ?_, fun _ e => (nomatch e), fun _ _ t2 nt2 => ?_⟩
        · have ep : p = [] := List.map_eq_nil_iff.mp e
          subst ep
          exact ⟨t1, rfl, upd_same, Same.new nt1⟩
        · exact ⟨t2, rfl, by rw [upd_same, List.map_append]; rfl, Same.trans (Same.new nt1) (Same.new nt2)⟩
      rintro cv G6 ⟨c, rfl, hc, s7⟩
      have s36 : Same H3 G6 := Same.trans s6 s7
      have hrows6 : RowsAt (fun x => ok x ∧ x ≠ l) mixK G6 e y2 b := hrows.to (kp4.trans (Keep.fr (Fr.same s36) fun _ k => k))
      refine ⟨y2, .ref c, (fun x => ok x ∧ x ≠ l), _, b, p ++ [(i : Int), (j : Int)], rfl, hrows6, by omega, hr8, by omega, ⟨c, rfl, hc⟩, by simp; omega, fun G7 l2 zs2 s8 nl2 hl2' hzs2 => ?_⟩
      have hl7 : G7 l = some (.lst zs4) := s8 _ _ (s7 _ _ hl5)
      have s37 : Same H3 G7 := Same.trans s36 s8
      have ce : 33 * cW e ≤ cW (e + 1) := by
        have : cW (e + 1) = 1 + 33 * cW e := rfl
        omega
      have lz2 : zs2.length ≤ 11 * cW e := by rw [paired_len hzs2]; exact walkL_len h8 hr8 _
      have lz4 : zs4.length ≤ 24 * cW (e + 1) + 1 + 3 * (11 * cW e) := by
        rw [paired_len hzs4, List.length_append, List.length_append, List.length_singleton]
        have h1 : ((rs.zipIdx.take i).flatMap (rowW (e + 1) p)).length ≤ 24 * cW (e + 1) := by rw [← paired_len hzs]; exact lz
        have h2 : (((blocks r).zipIdx.take j).flatMap (blkW (e + 1) p i)).length ≤ ((blocks r).zipIdx.take j).length * (11 * cW e) := flat_len fun q hq => by
          obtain ⟨e2, he2, h82, hr82⟩ := blk_ok rok (mem_zipIdx_fst (List.mem_of_mem_take hq))
          have ee2 : e = e2 := Nat.succ.inj he2
          subst ee2
          exact walkL_len h82 hr82 _
        have h3 : ((blocks r).zipIdx.take j).length ≤ 3 := by rw [List.length_take, List.length_zipIdx]; omega
        have h4 := Nat.mul_le_mul_right (11 * cW e) h3
        omega
      refine ⟨l, l2, zs4, zs2, rfl, rfl, hl7, hl2', smallE (by omega), ?_⟩
      have kt7 : KT (fun x => ok x ∧ x ≠ l) (fun x => ok x ∧ x ≠ l) G7 (upd G7 l (.lst (zs4 ++ zs2))) := KT.lst hl7 (fun x k => k.2) fun x k => k
      refine ⟨Same.upN (Same.trans sm4 s37) nl, ?_, fun b xs e => kt7.t _ _ (s37 _ _ (htup4 _ _ e)), ⟨_, _, _, rfl⟩, zs4 ++ zs2, upd_same, ?_, (kp4.trans (Keep.fr (Fr.same s37) fun _ k => k)).trans kt7.k⟩
      · rw [upd_ne lbl]
        exact s37 _ _ hbl4
      · have ez : (blocks r).zipIdx[j]? = some (b, j) := by rw [List.getElem?_zipIdx, hb']; simp
        rw [List.take_add_one, ez, List.flatMap_append, ← List.append_assoc]
        refine paired_cat (paired_imp hzs4 fun v q h => (h.to (KT.same s37)).to kt7) ?_
        rw [show ((some (b, j) : Option (List Row × Nat)).toList.flatMap (blkW (e + 1) p i)) = walkL e (p ++ [(i : Int), (j : Int)]) b by
          show List.flatMap (blkW (e + 1) p i) [(b, j)] = _
          rw [List.flatMap_cons, List.flatMap_nil, List.append_nil]
          rfl]
        exact paired_imp hzs2 fun v q h => by
          obtain ⟨T', pv', rv', e1', e2', e3', e4'⟩ := h
          exact (show WAt (fun x => ok x ∧ x ≠ l) mixK G7 (e + 1) v q from ⟨T', pv', rv', e1', e2', e3', rowAt_mono _ _ _ e4'⟩).to kt7
    · rintro σ H3 ⟨sm4, hbl4, htup4, ⟨w6, w7, w8, rfl⟩, zs4, hl4, hzs4, kp4⟩
      refine ⟨sm4, ⟨_, _, _, _, _, _, rfl⟩, zs4, hl4, ?_⟩
      have ly : ys.length = (blocks r).length := paired_len hys
      have ez : rs.zipIdx[i]? = some (r, i) := by rw [List.getElem?_zipIdx, hr']; simp
      rw [List.take_add_one, ez, List.flatMap_append]
      rw [show ((some (r, i) : Option (Row × Nat)).toList.flatMap (rowW d p)) = (p ++ [(i : Int)], r) :: (blocks r).zipIdx.flatMap (blkW d p i) by
        show List.flatMap (rowW d p) [(r, i)] = _
        rw [List.flatMap_cons, List.flatMap_nil, List.append_nil, rowW_eq rok]]
      have et : (blocks r).zipIdx.take ys.length = (blocks r).zipIdx := List.take_of_length_le (by rw [List.length_zipIdx]; omega)
      rw [et, List.append_assoc] at hzs4
      exact hzs4
  · rintro σ H1 ⟨sm, ⟨v3, v4, v5, v6, v7, v8, rfl⟩, zs, hl, hzs⟩
    have et : rs.zipIdx.take xs.length = rs.zipIdx := List.take_of_length_le (by rw [List.length_zipIdx, paired_len hxs]; omega)
    rw [et] at hzs
    exact ⟨_, rfl, q _ l zs sm nl hl (paired_imp hzs fun v q h => h.to ⟨Keep.mono fun x k _ => k.1, fun b xs e => e⟩)⟩
theorem lwalked_ok {f : Addr} {fd : FuncData} (F : Fun K "_law_walked" "_law_walked" sLWalked f fd) (B : Bl mg) (m : mg "_law_walked" = some (.ref f)) (b : Binds K fd ["_law_rows", "_law_ahead"] []) :
    ∀ d : Nat, Own P w K mg base (2 + d) "_law_walked" ["_law_rows", "_law_ahead"] (spLWalked d)
  | 0 => own_mk F m b (ok_LWalked (k := 1) F B (by omega) (own_mk F m b fn_false) (fun e h => absurd h (by omega)))
  | d + 1 => own_mk F m b (ok_LWalked (k := 2 + d) F B (by omega) (lwalked_ok F B m b d) (fun e h => by
      have : d = e := by omega
      rw [this]))
end
end Ft
set_option Elab.async false
set_option linter.all false
set_option maxRecDepth 100000
set_option maxHeartbeats 4000000
set_option Elab.async false
set_option linter.all false
set_option maxRecDepth 100000
set_option maxHeartbeats 4000000
namespace Ft
open PySem PySem.Spec L2 PySem.W PyProof.Rows
abbrev Tk := Int ⊕ List Nat
def pTok (p : List Int) : List Tk := keyToksAll (p.map PyData.int)
def PLt (p q : List Int) : Prop := lexLt itemOrd (pTok p ++ [.inl 0]) (pTok q ++ [.inl 0]) = true
theorem pTok_nil : pTok [] = [.inl 0] := by unfold pTok; rw [List.map_nil, keyToksAll]
theorem pTok_cons (k : Int) (t : List Int) : pTok (k :: t) = .inl 1 :: .inl k :: pTok t := by
  unfold pTok
  rw [List.map_cons, keyToksAll, keyToks]
  rfl
theorem PLt.pre : ∀ (a : List Int) {p q : List Int}, PLt p q → PLt (a ++ p) (a ++ q)
  | [], _, _, h => h
  | k :: a, p, q, h => by
    have ih := PLt.pre a h
    unfold PLt at ih ⊢
    rw [List.cons_append, List.cons_append, pTok_cons, pTok_cons]
    show lexLt itemOrd (.inl 1 :: .inl k :: (pTok (a ++ p) ++ [.inl 0])) (.inl 1 :: .inl k :: (pTok (a ++ q) ++ [.inl 0])) = true
    rw [lex_self (O := itemOrd), lex_self (O := itemOrd)]
    exact ih
theorem PLt.nil (k : Int) (t : List Int) : PLt [] (k :: t) := by
  unfold PLt
  rw [pTok_cons, pTok_nil]
  show lexLt itemOrd (.inl 0 :: [.inl 0]) (.inl 1 :: .inl k :: (pTok t ++ [.inl 0])) = true
  rw [lex_diff (O := itemOrd) (fun e => by have := Sum.inl.inj e; omega)]
  exact decide_eq_true (by decide : (0 : Int) < 1)
/-- a place as data -/
def spotD (q : Str × List Int) : PyData := .tuple [.str q.1, .tuple (q.2.map PyData.int)]
def SLt (a b : Str × List Int) : Prop := dataLt (spotD a) (spotD b) = true
theorem spot_toks (q : Str × List Int) : keyToks (spotD q) = .inl 1 :: .inr q.1.cps.toList :: .inl 1 :: (pTok q.2 ++ [.inl 0]) := by
  unfold spotD pTok
  rw [keyToks, keyToksAll, keyToks, keyToksAll, keyToks, keyToksAll]
  rfl
theorem SLt.word {z y : Str} (h : z.cps.toList < y.cps.toList) (p q : List Int) : SLt (z, p) (y, q) := by
  unfold SLt dataLt
  rw [spot_toks, spot_toks, lex_self (O := itemOrd), lex_diff (O := itemOrd) (fun e => by
    have e' : z.cps.toList = y.cps.toList := Sum.inr.inj e
    rw [e'] at h
    exact List.lt_irrefl _ h)]
  exact decide_eq_true h
theorem sortedS_strict {zs : List Str} (h : sortedS zs = true) (nd : zs.Nodup) : zs.Pairwise (fun a b => a.cps.toList < b.cps.toList) := by
  have lt_of : ∀ {a b : Str}, ltCps b.cps.toList a.cps.toList = false → a ≠ b → a.cps.toList < b.cps.toList := fun {a b} h ne => by
    rw [ltCps_eq] at h
    have h1 : ¬ b.cps.toList < a.cps.toList := of_decide_eq_false h
    cases e : decide (a.cps.toList < b.cps.toList) with
    | true => exact of_decide_eq_true e
    | false => exact absurd (str_of_cps (strKind.total _ _ e (decide_eq_false h1))) ne
  have go : ∀ (zs : List Str) (p : Str), risingS p zs = true → (p :: zs).Nodup → (p :: zs).Pairwise (fun a b => a.cps.toList < b.cps.toList) := by
    intro zs
    induction zs with
    | nil => intro p _ _; exact List.pairwise_singleton _ _
    | cons x r ih =>
      intro p h nd
      unfold risingS at h
      rw [Bool.and_eq_true] at h
      rw [List.nodup_cons] at nd
      have px : p.cps.toList < x.cps.toList := lt_of (by simpa using h.1) (fun e => nd.1 (by rw [e]; simp))
      have hr := ih x h.2 nd.2
      rw [List.pairwise_cons] at hr ⊢
      refine ⟨fun y hy => ?_, List.pairwise_cons.mpr hr⟩
      rcases List.mem_cons.mp hy with e | hy
      · rw [e]; exact px
      · exact List.lt_trans px (hr.1 y hy)
  cases zs with
  | nil => exact .nil
  | cons x r => exact go r x h nd
end Ft
set_option Elab.async false
set_option linter.all false
set_option maxRecDepth 100000
set_option maxHeartbeats 4000000
namespace Ft
open PySem L2
structure OwnC (P : PySem.Program) (w : World) (K : PySem.W.Frag) (mg : Str → Option Value) (base : Heap) (k : Nat) (x : Str) (C : Addr) (ps : List Str) (sp : Sp) : Prop where
  ex : ∃ (f : Addr) (fd : FuncData), Mk K C f ∧ FnOk P w K mg base CX0 k f fd ps sp ∧ mg x = some (.ref C) ∧ Binds K fd ps []
section
variable {X : Cx}
theorem pe_new {e : Expr} {es : List Expr} {t : TA} {p pos : Pos} {k : Nat} {x : Str} {C : Addr} {ps : List Str} {sp : Sp} (G : OwnC X.prog X.w X.K X.mg X.base k x C ps sp) (hr : Room (k + 1) X.A) (hg : Gl X x) (ha : PA X (e :: es) t)
    (hdb : (x == ("__debug__" : Str)) = false := by decide) (he : starEach (e :: es) X.env = (false, eval e X.env) :: starEach es X.env := by rfl) (hpl : (backTo pos (starEach es X.env)).any (·.1) = false := by rfl) :
    PE X (.Call (.Name x p) (e :: es) [] pos) (tMake C sp [] E0 t) := by
  obtain ⟨f, fd, M, F, m, b⟩ := G.ex
  exact pe_make M F hr hg m b .nil pass0 ha hdb he hpl
end
end Ft
set_option Elab.async false
set_option linter.all false
set_option maxRecDepth 100000
set_option maxHeartbeats 4000000
namespace Ft
open PySem PySem.Spec PyProof.Rows L2
/-- a method that keeps its promise, or raises as it says -/
structure OwnX (P : PySem.Program) (w : World) (K : PySem.W.Frag) (mg : Str → Option Value) (base : Heap) (k : Nat) (C : Addr) (m : Str) (ps : List Str) (sp : Sp) : Prop where
  ex : ∃ (f : Addr) (fd : FuncData), Cls K C ∧ Meth K C m f ∧ FnOk P w K mg base (L2N.CX P w) k f fd ps sp ∧ Binds K fd ps []
theorem OwnX.mono {P : PySem.Program} {w : World} {K : PySem.W.Frag} {mg : Str → Option Value} {base : Heap} {j k : Nat} {C : Addr} {m : Str} {ps : List Str} {sp : Sp} (G : OwnX P w K mg base j C m ps sp) (h : j ≤ k) : OwnX P w K mg base k C m ps sp := by
  obtain ⟨f, fd, c, hm, F, b⟩ := G.ex
  exact ⟨f, fd, c, hm, F.mono h, b⟩
end Ft
set_option Elab.async false
set_option linter.all false
set_option maxRecDepth 100000
set_option maxHeartbeats 4000000
set_option Elab.async false
set_option linter.all false
set_option maxRecDepth 100000
set_option maxHeartbeats 4000000
namespace Ft
open PySem L2
def plainB (wi : Bool) (w : Str) (fs : List V) : Bool := match plainT.find? (fun p => decide (p.1 = w)) with
  | some p => decide (p.2.length = fs.length) && ((List.zip p.2 fs).all (fun q => fldOk q.1 q.2) && (!wi || decide (w ≠ "call")))
  | none => false
def rowOkB : Nat → Bool → Row → Bool
  | _, wi, .plain w fs => plainB wi w fs
  | d + 1, wi, .make n b => !wi && (isW n && (decide (b.length ≤ 11) && b.all (rowOkB d true)))
  | d + 1, wi, .when n b c => isW n && (decide (b.length ≤ 11) && (decide (c.length ≤ 11) && (b.all (rowOkB d wi) && c.all (rowOkB d wi))))
  | d + 1, wi, .try_ b c => decide (b.length ≤ 11) && (decide (c.length ≤ 11) && (b.all (rowOkB d wi) && c.all (rowOkB d wi)))
  | 0, _, _ => false
theorem zip_paired : ∀ {ks : List Bool} {fs : List V}, ks.length = fs.length → ((List.zip ks fs).all fun q => fldOk q.1 q.2) = true → Paired (fun k v => fldOk k v = true) ks fs
  | [], [], _, _ => .nil
  | [], _ :: _, h, _ => by cases h
  | _ :: _, [], h, _ => by cases h
  | k :: ks, v :: fs, h, hz => by
    rw [List.zip_cons_cons, List.all_cons, Bool.and_eq_true] at hz
    exact .cons hz.1 (zip_paired (Nat.succ.inj h) hz.2)
theorem plainB_ok {wi : Bool} {w : Str} {fs : List V} (h : plainB wi w fs = true) : plainOk wi w fs := by
  unfold plainB at h
  split at h
  · rename_i p hp
    rw [Bool.and_eq_true, Bool.and_eq_true] at h
    have hm := List.mem_of_find?_eq_some hp
    have he0 := List.find?_some hp
    have he : p.1 = w := of_decide_eq_true he0
    refine ⟨p.2, by rw [← he]; exact hm, zip_paired (of_decide_eq_true h.1) h.2.1, fun hw => ?_⟩
    have := h.2.2
    rw [hw] at this
    exact of_decide_eq_true this
  · cases h
theorem rowOkB_ok : ∀ {d : Nat} {wi : Bool} {r : Row}, rowOkB d wi r = true → RowOk d wi r := by
  intro d
  induction d with
  | zero =>
    intro wi r h
    cases r with
    | plain w fs => exact plainB_ok h
    | _ => cases h
  | succ d ih =>
    intro wi r h
    have all : ∀ {b : List Row} {wi : Bool}, b.all (rowOkB d wi) = true → ∀ r ∈ b, RowOk d wi r := fun h r hr => ih (List.all_eq_true.mp h r hr)
    cases r with
    | plain w fs => exact plainB_ok h
    | make n b =>
      unfold rowOkB at h
      simp only [Bool.and_eq_true] at h
      exact ⟨by cases wi with
        | true => cases h.1
        | false => rfl, h.2.1, of_decide_eq_true h.2.2.1, all h.2.2.2⟩
    | when n b c =>
      unfold rowOkB at h
      simp only [Bool.and_eq_true] at h
      exact ⟨h.1, of_decide_eq_true h.2.1, of_decide_eq_true h.2.2.1, all h.2.2.2.1, all h.2.2.2.2⟩
    | try_ b c =>
      unfold rowOkB at h
      simp only [Bool.and_eq_true] at h
      exact ⟨of_decide_eq_true h.1, of_decide_eq_true h.2.1, all h.2.2.1, all h.2.2.2⟩
end Ft
set_option Elab.async false
set_option linter.all false
set_option maxRecDepth 100000
set_option maxHeartbeats 4000000
namespace Ft
open PySem L2
inductive Val where
  | num (i : Int)
  | mod (m : Str)
  | fn (h : Str) (p : List Int)
  | pr1 (m : Str)
  | pr2 (m p : Str)
  deriving DecidableEq
abbrev Pl := Str × List Int
inductive Op where
  | load (x m : Str) | pick (x m p : Str) | put (x : Str) (i : Int) | copy (x o : Str) | part (x o p : Str) | drop (x : Str)
  | say (i : Int) | tell (x : Str) | seen (x m : Str) | fail (i : Int) | call (x : Str)
def opOf (w : Str) (fs : List V) : Option Op :=
  if w = "load" then (match fs with | [.str x, .str m] => some (.load x m) | _ => none) else
  if w = "pick" then (match fs with | [.str x, .str m, .str p] => some (.pick x m p) | _ => none) else
  if w = "put" then (match fs with | [.str x, .int i] => some (.put x i) | _ => none) else
  if w = "copy" then (match fs with | [.str x, .str o] => some (.copy x o) | _ => none) else
  if w = "part" then (match fs with | [.str x, .str o, .str p] => some (.part x o p) | _ => none) else
  if w = "drop" then (match fs with | [.str x] => some (.drop x) | _ => none) else
  if w = "say" then (match fs with | [.int i] => some (.say i) | _ => none) else
  if w = "tell" then (match fs with | [.str x] => some (.tell x) | _ => none) else
  if w = "seen" then (match fs with | [.str x, .str m] => some (.seen x m) | _ => none) else
  if w = "fail" then (match fs with | [.int i] => some (.fail i) | _ => none) else
  if w = "call" then (match fs with | [.str x] => some (.call x) | _ => none) else none
section
variable {β : Type}
def lookA (l : List (Str × β)) (z : Str) : Option β := (l.find? fun m => decide (m.1 = z)).map (·.2)
def putA (l : List (Str × β)) (z : Str) (v : β) : List (Str × β) := if (l.any fun m => decide (m.1 = z)) = true then l.map (fun m => if m.1 = z then (m.1, v) else m) else l ++ [(z, v)]
def dropA (l : List (Str × β)) (z : Str) : List (Str × β) := l.filter fun m => decide (m.1 ≠ z)
end
structure MS where
  table : List Str
  names : List (Str × List (Str × Val))
  ran : List Str
  begun : Int
  events : List Val
  kc : Nat
inductive Flt where
  | absent (m : Str) | name (n : Str) | part (m p : Str) | kind (n : Str) | fail (i : Int) | ring (m n : Str) | long
abbrev Res := Option (Except Flt Val × MS)
def look (s : MS) (h n : Str) : Option Val := (lookA s.names h).bind fun ns => lookA ns n
def putN (s : MS) (h n : Str) (v : Val) : MS := { s with names := putA s.names h (putA ((lookA s.names h).getD []) n v) }
def dropN (s : MS) (h n : Str) : MS := { s with names := putA s.names h (dropA ((lookA s.names h).getD []) n) }
/-- the row at a path -/
def rowAtP : List Row → List Int → Option Row
  | rs, [k] => rs[k.toNat]?
  | rs, k :: b :: p => (rs[k.toNat]?).bind fun r => ((blocks r)[b.toNat]?).bind fun blk => rowAtP blk p
  | _, [] => none
def fnBody (lib : Lib) (h : Str) (p : List Int) : Option (List Row) := (lookA lib h).bind fun rs => (rowAtP rs p).bind fun r => match r with
  | .make _ b => some b
  | _ => none
def okR (v : Val) (s : MS) : Res := some (.ok v, s)
def noR (e : Flt) (s : MS) : Res := some (.error e, s)
def kept (s : MS) (h n : Str) (v found : Val) : MS := if look s h n = some v then putN s h n found else s
end Ft
set_option Elab.async false
set_option linter.all false
set_option maxRecDepth 100000
set_option maxHeartbeats 4000000
namespace Ft
open PySem PySem.Spec PyProof.Rows L2
def nkP (p : Pl) : NestedKey := .tup [.text p.1, .tup (p.2.map NestedKey.num)]
def PlAt (H : Hp) (t : Addr) (p : Pl) : Prop := ∃ q, H t = some (.tup [.str p.1, .ref q]) ∧ H q = some (.tup (p.2.map V.int))
theorem PlAt.to {H H' : Hp} {t : Addr} {p : Pl} (h : PlAt H t p) (f : ∀ b xs, H b = some (.tup xs) → H' b = some (.tup xs)) : PlAt H' t p := by
  obtain ⟨q, h1, h2⟩ := h
  exact ⟨q, f _ _ h1, f _ _ h2⟩
def spX (xs : List (Pl × Addr)) : List (NestedKey × Addr × Value) := xs.map fun x => (nkP x.1, x.2, .bool true)
/-- at a stands the dict of the places xs, each told by its own tuple, all True -/
def SpO (P : PySem.Program) (w : World) (a : Addr) (xs : List (Pl × Addr)) : HO := .ext fun h => ∃ o es ep, h.get? a = some o ∧ o.ExactDict ∧ o.data = .dict es ep ∧ es.toList = (spX xs).map (entryOfKey (nestedKind P w))
structure SpAt (P : PySem.Program) (w : World) (H : Hp) (a : Addr) (xs : List (Pl × Addr)) : Prop where
  at_ : H a = some (SpO P w a xs)
  nm : (a == sysModules) = false
  pl : ∀ x ∈ xs, PlAt H x.2 x.1
  nd : (xs.map (·.1)).Nodup
theorem SpAt.to {P : PySem.Program} {w : World} {H H' : Hp} {a : Addr} {xs : List (Pl × Addr)} (h : SpAt P w H a xs) (f : ∀ b xs, H b = some (.tup xs) → H' b = some (.tup xs)) (e : H' a = H a) : SpAt P w H' a xs := ⟨e.trans h.at_, h.nm, fun x hx => (h.pl x hx).to f, h.nd⟩
end Ft
set_option Elab.async false
set_option linter.all false
set_option maxRecDepth 100000
set_option maxHeartbeats 4000000
namespace Ft
open PySem L2
section
variable {β : Type}
theorem lookA_cons {m : Str × β} {l : List (Str × β)} {z : Str} : lookA (m :: l) z = if m.1 = z then some m.2 else lookA l z := by
  unfold lookA
  by_cases e : m.1 = z
  · rw [List.find?_cons_of_pos (by exact decide_eq_true e), if_pos e]; rfl
  · rw [List.find?_cons_of_neg (by simp [e]), if_neg e]
theorem any_look {l : List (Str × β)} {z : Str} : (l.any fun m => decide (m.1 = z)) = (lookA l z).isSome := by
  induction l with
  | nil => rfl
  | cons m l ih =>
    rw [List.any_cons, ih, lookA_cons]
    by_cases e : m.1 = z
    · rw [if_pos e, decide_eq_true e]; rfl
    · rw [if_neg e, decide_eq_false e]; rfl
theorem lookA_app {l k : List (Str × β)} {z : Str} : lookA (l ++ k) z = (lookA l z).or (lookA k z) := by
  induction l with
  | nil => rfl
  | cons m l ih =>
    rw [List.cons_append, lookA_cons, lookA_cons, ih]
    by_cases e : m.1 = z
    · rw [if_pos e, if_pos e]; rfl
    · rw [if_neg e, if_neg e]
theorem lookA_map {l : List (Str × β)} {z y : Str} {v : β} : lookA (l.map fun m => if m.1 = z then (m.1, v) else m) y = if y = z then (lookA l y).map (fun _ => v) else lookA l y := by
  induction l with
  | nil => simp [lookA]
  | cons m l ih =>
    rw [List.map_cons, lookA_cons, lookA_cons, ih]
    by_cases e : m.1 = z
    · rw [if_pos e]
      by_cases e2 : y = z
      · subst e2
        rw [if_pos e, if_pos rfl, if_pos e]
        rfl
      · have e3 : ¬ m.1 = y := fun h => e2 (h.symm.trans e)
        simp [e3, e2]
    · rw [if_neg e]
      by_cases e2 : m.1 = y
      · have e3 : ¬ y = z := fun h => e (e2.trans h)
        simp [e2, e3]
      · simp [e2]
theorem lookA_put_same {l : List (Str × β)} {z : Str} {v : β} : lookA (putA l z v) z = some v := by
  unfold putA
  by_cases c : (l.any fun m => decide (m.1 = z)) = true
  · rw [if_pos c, lookA_map, if_pos rfl]
    rw [any_look] at c
    obtain ⟨u, hu⟩ := Option.isSome_iff_exists.mp c
    rw [hu]; rfl
  · rw [if_neg c, lookA_app]
    rw [any_look] at c
    rw [Option.not_isSome_iff_eq_none.mp c, lookA_cons, if_pos rfl]
    rfl
theorem lookA_put_ne {l : List (Str × β)} {z y : Str} {v : β} (h : y ≠ z) : lookA (putA l z v) y = lookA l y := by
  unfold putA
  split
  · rw [lookA_map, if_neg h]
  · have h' : ¬ z = y := fun e => h e.symm
    rw [lookA_app, lookA_cons, if_neg h']
    show (lookA l y).or none = _
    cases lookA l y <;> rfl
theorem lookA_drop {l : List (Str × β)} {z y : Str} : lookA (dropA l z) y = if y = z then none else lookA l y := by
  unfold dropA
  induction l with
  | nil => simp [lookA]
  | cons m l ih =>
    by_cases e : m.1 = z
    · rw [List.filter_cons_of_neg (by simp [e]), ih, lookA_cons]
      by_cases e2 : y = z
      · rw [if_pos e2, if_pos e2]
      · have e3 : ¬ m.1 = y := fun h => e2 (h.symm.trans e)
        rw [if_neg e2, if_neg e2, if_neg e3]
    · rw [List.filter_cons_of_pos (by simp [e]), lookA_cons, ih, lookA_cons]
      by_cases e2 : m.1 = y
      · have e3 : ¬ y = z := fun h => e (e2.trans h)
        rw [if_pos e2, if_neg e3, if_pos e2]
      · rw [if_neg e2]
        by_cases e3 : y = z
        · rw [if_pos e3, if_pos e3]
        · rw [if_neg e3, if_neg e3, if_neg e2]
theorem putA_keys {l : List (Str × β)} {z : Str} {v : β} (h : (lookA l z).isSome = true) : (putA l z v).map (·.1) = l.map (·.1) := by
  unfold putA
  rw [any_look, if_pos h, List.map_map]
  refine List.map_congr_left fun m _ => ?_
  show (if m.1 = z then (m.1, v) else m).1 = m.1
  split <;> rfl
theorem lookA_mem {l : List (Str × β)} {z : Str} {v : β} (h : lookA l z = some v) : (z, v) ∈ l := by
  induction l with
  | nil => cases h
  | cons m l ih =>
    rw [lookA_cons] at h
    by_cases e : m.1 = z
    · rw [if_pos e] at h
      have := Option.some.inj h
      rw [← e, ← this]; exact List.mem_cons_self
    · rw [if_neg e] at h
      exact List.mem_cons_of_mem _ (ih h)
end
theorem look_put {s : MS} {h n : Str} {v : Val} {h2 n2 : Str} (hh : (lookA s.names h).isSome = true) : look (putN s h n v) h2 n2 = if h2 = h ∧ n2 = n then some v else look s h2 n2 := by
  unfold look putN
  dsimp only
  obtain ⟨ns, hns⟩ := Option.isSome_iff_exists.mp hh
  by_cases e : h2 = h
  · subst e
    rw [lookA_put_same, hns]
    by_cases e2 : n2 = n
    · subst e2
      rw [if_pos ⟨rfl, rfl⟩]
      exact lookA_put_same
    · rw [if_neg (fun z => e2 z.2)]
      exact lookA_put_ne e2
  · rw [lookA_put_ne e, if_neg (fun z => e z.1)]
theorem look_drop {s : MS} {h n : Str} {h2 n2 : Str} (hh : (lookA s.names h).isSome = true) : look (dropN s h n) h2 n2 = if h2 = h ∧ n2 = n then none else look s h2 n2 := by
  unfold look dropN
  dsimp only
  obtain ⟨ns, hns⟩ := Option.isSome_iff_exists.mp hh
  by_cases e : h2 = h
  · subst e
    rw [lookA_put_same, hns]
    show lookA (dropA ns n) n2 = _
    rw [lookA_drop]
    by_cases e2 : n2 = n
    · rw [if_pos e2, if_pos ⟨rfl, e2⟩]
    · rw [if_neg e2, if_neg (fun z => e2 z.2)]; rfl
  · rw [lookA_put_ne e, if_neg (fun z => e z.1)]
theorem rowAtP_app : ∀ (p : List Int) (rs : List Row) (r : Row) (b k : Int), rowAtP rs p = some r → rowAtP rs (p ++ [b, k]) = ((blocks r)[b.toNat]?).bind fun blk => blk[k.toNat]?
  | [], _, _, _, _, h => by cases h
  | [j], rs, r, b, k, h => by
    show (rs[j.toNat]?).bind _ = _
    rw [show rs[j.toNat]? = some r from h]
    rfl
  | j :: b2 :: p, rs, r, b, k, h => by
    cases p with
    | nil =>
      have h' : ((rs[j.toNat]?).bind fun r => ((blocks r)[b2.toNat]?).bind fun blk => rowAtP blk []) = some r := h
      have : ∀ o : Option Row, (o.bind fun r => ((blocks r)[b2.toNat]?).bind fun blk => rowAtP blk []) = none := fun o => by
        cases o with
        | none => rfl
        | some r =>
          show ((blocks r)[b2.toNat]?).bind _ = none
          cases (blocks r)[b2.toNat]? <;> rfl
      rw [this] at h'; cases h'
    | cons j2 p =>
      have h' : ((rs[j.toNat]?).bind fun r => ((blocks r)[b2.toNat]?).bind fun blk => rowAtP blk (j2 :: p)) = some r := h
      show ((rs[j.toNat]?).bind fun r => ((blocks r)[b2.toNat]?).bind fun blk => rowAtP blk ((j2 :: p) ++ [b, k])) = _
      cases e1 : rs[j.toNat]? with
      | none => rw [e1] at h'; cases h'
      | some r1 =>
        rw [e1] at h'
        show ((blocks r1)[b2.toNat]?).bind _ = _
        have h2 : ((blocks r1)[b2.toNat]?).bind (fun blk => rowAtP blk (j2 :: p)) = some r := h'
        cases e2 : (blocks r1)[b2.toNat]? with
        | none => rw [e2] at h2; cases h2
        | some blk =>
          rw [e2] at h2
          exact rowAtP_app (j2 :: p) blk r b k h2
/-- the rows that stand behind ahead in a module -/
def PathOk (lib : Lib) (h : Str) (ahead : List Int) (rs : List Row) : Prop := ∃ M, lookA lib h = some M ∧ ∀ (k : Nat) r, rs[k]? = some r → rowAtP M (ahead ++ [(k : Int)]) = some r
theorem PathOk.blk {lib : Lib} {h : Str} {path : List Int} {r : Row} {M : List Row} (hM : lookA lib h = some M) (hr : rowAtP M path = some r) {b : Nat} {blk : List Row} (hb : (blocks r)[b]? = some blk) : PathOk lib h (path ++ [(b : Int)]) blk := by
  refine ⟨M, hM, fun k r' hk => ?_⟩
  rw [List.append_assoc]
  show rowAtP M (path ++ [(b : Int), (k : Int)]) = _
  rw [rowAtP_app path M r _ _ hr, Int.toNat_natCast, hb]
  exact hk
structure Lim where
  lib : Lib
  E : Nat
  F : Nat
  NL : List Str
  pr : Bool
  pls : List Pl
  prog : PySem.Program
  wld : World
  cap : Option Int
/-- rows that are done in place -/
def ex : Nat → Row → Nat
  | d + 1, .when _ b c => 1 + (b.map (ex d)).sum + (c.map (ex d)).sum
  | d + 1, .try_ b c => 1 + (b.map (ex d)).sum + (c.map (ex d)).sum
  | _, _ => 1
def exL (d : Nat) (rs : List Row) : Nat := (rs.map (ex d)).sum
def opNm : Op → List Str
  | .load x _ => [x] | .pick x _ _ => [x] | .put x _ => [x] | .copy x _ => [x] | .part x _ _ => [x] | .seen x _ => [x]
  | _ => []
def RowG (Z : Lim) : Nat → Row → Prop
  | _, .plain w fs => ∀ op, opOf w fs = some op → ∀ x ∈ opNm op, x ∈ Z.NL
  | d + 1, .make x b => x ∈ Z.NL ∧ exL d b ≤ Z.F ∧ ∀ r ∈ b, RowG Z d r
  | d + 1, .when _ b c => (∀ r ∈ b, RowG Z d r) ∧ ∀ r ∈ c, RowG Z d r
  | d + 1, .try_ b c => (∀ r ∈ b, RowG Z d r) ∧ ∀ r ∈ c, RowG Z d r
  | 0, _ => True
/-- no number below 0 -/
def NN (p : List Int) : Prop := ∀ k ∈ p, 0 ≤ k
theorem NN.nil : NN [] := fun _ h => nomatch h
theorem NN.app {p : List Int} (h : NN p) (k : Nat) : NN (p ++ [(k : Int)]) := fun x hx => by
  rcases List.mem_append.mp hx with hx | hx
  · exact h x hx
  · rw [List.mem_singleton.mp hx]; exact Int.natCast_nonneg k
def VOk (Z : Lim) : Val → Prop
  | .num _ => True
  | .mod m => (lookA Z.lib m).isSome = true
  | .fn h p => ∃ b d, fnBody Z.lib h p = some b ∧ d ≤ 2 ∧ b.length ≤ 11 ∧ (∀ r ∈ b, RowOk d true r) ∧ PathOk Z.lib h (p ++ [0]) b ∧ p.length + 2 + 2 * d ≤ 7 ∧ exL d b ≤ Z.F ∧ (∀ r ∈ b, RowG Z d r) ∧ NN p
  | .pr1 m => Z.pr = true ∧ isW m = true
  | .pr2 m p => Z.pr = true ∧ isW m = true ∧ isW p = true
structure Good (Z : Lim) (s : MS) : Prop where
  keys : s.names.map (·.1) = Z.lib.map (·.1)
  vals : ∀ h n v, look s h n = some v → VOk Z v
  few : ∀ h ns, lookA s.names h = some ns → (ns.map (·.1)).Nodup ∧ ∀ n ∈ ns.map (·.1), n ∈ Z.NL
  tabl : s.table.Nodup ∧ ∀ m ∈ s.table, (lookA Z.lib m).isSome = true
  evs : ∀ v ∈ s.events, VOk Z v
theorem look_isSome {β γ : Type} {l : List (Str × β)} {k : List (Str × γ)} (e : l.map (·.1) = k.map (·.1)) (z : Str) : (lookA l z).isSome = (lookA k z).isSome := by
  have : ∀ {β : Type} (l : List (Str × β)), (lookA l z).isSome = decide (z ∈ l.map (·.1)) := by
    intro β l
    induction l with
    | nil => rfl
    | cons m l ih =>
      rw [lookA_cons, List.map_cons]
      by_cases e : m.1 = z
      · rw [if_pos e]; simp [e]
      · rw [if_neg e, ih]
        have e' : ¬ z = m.1 := fun h => e h.symm
        simp [e']
  rw [this l, this k, e]
theorem isSome_mem {β : Type} {l : List (Str × β)} {z : Str} : (lookA l z).isSome = true ↔ z ∈ l.map (·.1) := by
  induction l with
  | nil => simp [lookA]
  | cons m l ih =>
    rw [lookA_cons, List.map_cons]
    by_cases e : m.1 = z
    · rw [if_pos e]; simp [e]
    · rw [if_neg e, ih]
      have e' : ¬ z = m.1 := fun h => e h.symm
      simp [e']
theorem putA_nd {β : Type} {l : List (Str × β)} {z : Str} {v : β} (nd : (l.map (·.1)).Nodup) : ((putA l z v).map (·.1)).Nodup := by
  by_cases c : (lookA l z).isSome = true
  · rw [putA_keys c]; exact nd
  · unfold putA
    rw [any_look, if_neg c, List.map_append, List.nodup_append]
    refine ⟨nd, by simp, fun x hx y hy e => c (isSome_mem.mpr ?_)⟩
    have : y = z := by simpa using hy
    rw [← this, ← e]; exact hx
theorem putA_mem {β : Type} {l : List (Str × β)} {z y : Str} {v : β} (h : y ∈ (putA l z v).map (·.1)) : y = z ∨ y ∈ l.map (·.1) := by
  by_cases c : (lookA l z).isSome = true
  · rw [putA_keys c] at h; exact .inr h
  · unfold putA at h
    rw [any_look, if_neg c, List.map_append] at h
    rcases List.mem_append.mp h with h | h
    · exact .inr h
    · exact .inl (by simpa using h)
theorem dropA_sub {β : Type} {l : List (Str × β)} {z : Str} : ((dropA l z).map (·.1)).Sublist (l.map (·.1)) := (List.filter_sublist).map _
theorem Good.has {Z : Lim} {s : MS} (g : Good Z s) {h : Str} (hh : (lookA Z.lib h).isSome = true) : (lookA s.names h).isSome = true := by
  rw [look_isSome g.keys]; exact hh
theorem Good.of {Z : Lim} {s s' : MS} (g : Good Z s) (e : s'.names = s.names) (et : s'.table = s.table) (ev : ∀ v ∈ s'.events, v ∈ s.events ∨ VOk Z v := by exact fun _ h => Or.inl h) : Good Z s' := ⟨by rw [e]; exact g.keys, fun h n v q => g.vals h n v (by unfold look at q ⊢; rw [← e]; exact q), by rw [e]; exact g.few, by rw [et]; exact g.tabl, fun v hv => (ev v hv).elim (g.evs v) id⟩
theorem Good.put {Z : Lim} {s : MS} (g : Good Z s) {h x : Str} {v : Val} (hh : (lookA Z.lib h).isSome = true) (hv : VOk Z v) (hx : x ∈ Z.NL) : Good Z (putN s h x v) := by
  have hs := g.has hh
  refine ⟨?_, fun h2 n2 v2 q => ?_, fun h2 ns2 q => ?_, g.tabl, g.evs⟩
  · show (putA s.names h _).map (·.1) = _
    rw [putA_keys hs]; exact g.keys
  · rw [look_put hs] at q
    split at q
    · rw [← Option.some.inj q]; exact hv
    · exact g.vals _ _ _ q
  · have q' : lookA (putA s.names h (putA ((lookA s.names h).getD []) x v)) h2 = some ns2 := q
    obtain ⟨ns, hns⟩ := Option.isSome_iff_exists.mp hs
    by_cases e : h2 = h
    · subst e
      rw [lookA_put_same, hns] at q'
      have e2 := Option.some.inj q'
      rw [← e2]
      obtain ⟨f1, f2⟩ := g.few _ _ hns
      refine ⟨putA_nd f1, fun n hn => ?_⟩
      rcases putA_mem hn with e | hn
      · rw [e]; exact hx
      · exact f2 n hn
    · rw [lookA_put_ne e] at q'
      exact g.few _ _ q'
theorem Good.drop {Z : Lim} {s : MS} (g : Good Z s) {h x : Str} (hh : (lookA Z.lib h).isSome = true) : Good Z (dropN s h x) := by
  have hs := g.has hh
  refine ⟨?_, fun h2 n2 v2 q => ?_, fun h2 ns2 q => ?_, g.tabl, g.evs⟩
  · show (putA s.names h _).map (·.1) = _
    rw [putA_keys hs]; exact g.keys
  · rw [look_drop hs] at q
    split at q
    · cases q
    · exact g.vals _ _ _ q
  · have q' : lookA (putA s.names h (dropA ((lookA s.names h).getD []) x)) h2 = some ns2 := q
    obtain ⟨ns, hns⟩ := Option.isSome_iff_exists.mp hs
    by_cases e : h2 = h
    · subst e
      rw [lookA_put_same, hns] at q'
      have e2 := Option.some.inj q'
      rw [← e2]
      obtain ⟨f1, f2⟩ := g.few _ _ hns
      exact ⟨f1.sublist dropA_sub, fun n hn => f2 n (dropA_sub.subset hn)⟩
    · rw [lookA_put_ne e] at q'
      exact g.few _ _ q'
theorem Good.fresh {Z : Lim} {s : MS} (g : Good Z s) {m : Str} (hh : (lookA Z.lib m).isSome = true) (hm : m ∉ s.table) : Good Z { s with table := s.table ++ [m], ran := s.ran ++ [m], names := putA s.names m [] } := by
  have hs := g.has hh
  refine ⟨?_, fun h2 n2 v2 q => ?_, fun h2 ns2 q => ?_, ⟨?_, fun x hx => ?_⟩, g.evs⟩
  · show (putA s.names m _).map (·.1) = _
    rw [putA_keys hs]; exact g.keys
  · unfold look at q
    dsimp only at q
    by_cases e : h2 = m
    · subst e
      rw [lookA_put_same] at q; cases q
    · rw [lookA_put_ne e] at q
      exact g.vals h2 n2 v2 q
  · have q' : lookA (putA s.names m []) h2 = some ns2 := q
    by_cases e : h2 = m
    · subst e
      rw [lookA_put_same] at q'
      rw [← Option.some.inj q']
      exact ⟨by simp, fun n hn => by simp at hn⟩
    · rw [lookA_put_ne e] at q'
      exact g.few _ _ q'
  · show (s.table ++ [m]).Nodup
    rw [List.nodup_append]
    refine ⟨g.tabl.1, by simp, fun x hx y hy e => hm ?_⟩
    have : y = m := by simpa using hy
    rw [← this, ← e]; exact hx
  · rcases List.mem_append.mp hx with hx | hx
    · exact g.tabl.2 x hx
    · rw [show x = m by simpa using hx]; exact hh
theorem Good.erase {Z : Lim} {s : MS} (g : Good Z s) (m : Str) : Good Z { s with table := s.table.erase m } := ⟨g.keys, g.vals, g.few, ⟨g.tabl.1.erase m, fun x hx => g.tabl.2 x (List.mem_of_mem_erase hx)⟩, g.evs⟩
end Ft
set_option Elab.async false
set_option linter.all false
set_option maxRecDepth 100000
set_option maxHeartbeats 4000000
namespace Ft
open PySem L2
def left (lib : Lib) (s : MS) : Nat := (lib.map (·.1)).countP fun m => decide (m ∉ s.table)
/-- names that are not being kept -/
def prs (Z : Lim) : List (Str × Str) := (Z.lib.map (·.1)).flatMap fun m => Z.NL.map fun x => (m, x)
/-- how many runs, events (and, b times, promises kept) there may be; what is left of them behind a thing that went well -/
def cR (Z : Lim) (b : Nat) : Nat := 2 * (b * (prs Z).length)
def pC (Z : Lim) (b : Nat) : Nat → Nat
  | 0 => 0
  | L + 1 => (1 + Z.E * (1 + cR Z b + Z.F * (1 + cR Z b + pC Z b L))) + pC Z b L
def sz (b : Nat) (s : MS) : Nat := s.ran.length + s.events.length + b * s.kc
def EndsR (Z : Lim) (b : Nat) (s : MS) (c : Nat) (x : Res) : Prop := ∃ r s', x = some (r, s') ∧ Good Z s' ∧ (∀ m ∈ s.table, m ∈ s'.table) ∧ (∀ v, r = .ok v → VOk Z v) ∧ sz b s' ≤ sz b s + c
section
variable {Z : Lim} {s s1 : MS} {b c c1 c2 : Nat}
theorem EndsR.ok {v : Val} (g : Good Z s1) (t : ∀ m ∈ s.table, m ∈ s1.table) (hv : VOk Z v) (hz : sz b s1 ≤ sz b s + c) : EndsR Z b s c (okR v s1) := ⟨.ok v, s1, rfl, g, t, fun u e => by cases e; exact hv, hz⟩
theorem EndsR.no {e : Flt} (g : Good Z s1) (t : ∀ m ∈ s.table, m ∈ s1.table) (hz : sz b s1 ≤ sz b s + c) : EndsR Z b s c (noR e s1) := ⟨.error e, s1, rfl, g, t, (fun u e => by cases e), hz⟩
theorem EndsR.from {s0 : MS} {x : Res} (h : EndsR Z b s c1 x) (t : ∀ m ∈ s0.table, m ∈ s.table) (hz : sz b s + c1 ≤ sz b s0 + c) : EndsR Z b s0 c x := by
  obtain ⟨r, s', e, g, t', hv, hz'⟩ := h
  refine ⟨r, s', e, g, fun m hm => t' m (t m hm), hv, ?_⟩
  omega
theorem EndsR.le {x : Res} (h : EndsR Z b s c1 x) (hc : c1 ≤ c) : EndsR Z b s c x := h.from (fun _ h => h) (by omega)
end
theorem look_few {Z : Lim} {s : MS} (g : Good Z s) {h x : Str} {v : Val} (e : look s h x = some v) : x ∈ Z.NL := by
  unfold look at e
  cases q : lookA s.names h with
  | none => rw [q] at e; cases e
  | some ns =>
    rw [q] at e
    exact (g.few h ns q).2 x (List.mem_map.mpr ⟨_, lookA_mem (show lookA ns x = some v from e), rfl⟩)
theorem kept_good {Z : Lim} {s : MS} (g : Good Z s) {h x : Str} {v found : Val} (hh : (lookA Z.lib h).isSome = true) (hf : VOk Z found) : Good Z (kept s h x v found) := by
  unfold kept
  split
  · rename_i e
    exact g.put hh hf (look_few g e)
  · exact g
theorem kept_len {s : MS} {h x : Str} {v found : Val} : (kept s h x v found).ran = s.ran ∧ (kept s h x v found).events = s.events ∧ (kept s h x v found).table = s.table ∧ (kept s h x v found).begun = s.begun := by
  unfold kept
  split <;> exact ⟨rfl, rfl, rfl, rfl⟩
/-- .. and what is left behind a thing that went well; R: what names may still be kept -/
def EndsP (Z : Lim) (b R : Nat) (s : MS) (x : Res) : Prop := EndsR Z b s (b * R + pC Z b (left Z.lib s)) x ∧ ∀ v s', x = some (.ok v, s') → sz b s' + pC Z b (left Z.lib s') ≤ sz b s + b * R + pC Z b (left Z.lib s)
section
variable {Z : Lim} {b R R' R2 : Nat} {s : MS}
theorem EndsP.no {e : Flt} (g : Good Z s) : EndsP Z b R s (noR e s) := ⟨.no g (fun _ h => h) (by omega), fun v s' q => by cases q⟩
theorem EndsP.ok {v : Val} (g : Good Z s) (hv : VOk Z v) : EndsP Z b R s (okR v s) := ⟨.ok g (fun _ h => h) hv (by omega), fun u s' q => by cases q; omega⟩
theorem EndsP.mono {x : Res} (h : EndsP Z b R s x) (hr : R ≤ R') : EndsP Z b R' s x := by
  have hb := Nat.mul_le_mul_left b hr
  exact ⟨h.1.le (by omega), fun v s' q => by have := h.2 v s' q; omega⟩
theorem kept_left {lib : Lib} {s : MS} {h x : Str} {v u : Val} : left lib (kept s h x v u) = left lib s := by
  unfold left
  rw [kept_len.2.2.1]
theorem kept_kc {s : MS} {h x : Str} {v u : Val} : (Ft.kept s h x v u).kc = s.kc := by
  unfold Ft.kept
  split <;> rfl
theorem EndsP.kept (g : Good Z s) {h x : Str} {v u : Val} (hh : (lookA Z.lib h).isSome = true) (hu : VOk Z u) : EndsP Z b R s (okR u (kept s h x v u)) := by
  have e : sz b (Ft.kept s h x v u) = sz b s := by unfold sz; rw [kept_len.1, kept_len.2.1, kept_kc]
  refine ⟨.ok (kept_good g hh hu) (by rw [kept_len.2.2.1]; exact fun _ h => h) hu (by omega), fun w s' q => ?_⟩
  cases q
  rw [e, kept_left]
  omega
/-- one more promise is being kept -/
theorem EndsP.kc {x : Res} (h : EndsP Z b R { s with kc := s.kc + 1 } x) : EndsP Z b (R + 1) s x := by
  have e : sz b { s with kc := s.kc + 1 } = sz b s + b := by
    show s.ran.length + s.events.length + b * (s.kc + 1) = s.ran.length + s.events.length + b * s.kc + b
    rw [Nat.mul_add]; omega
  have e2 : left Z.lib { s with kc := s.kc + 1 } = left Z.lib s := rfl
  obtain ⟨⟨r, s1, e1, g, t, hv, hz⟩, hp⟩ := h
  rw [e, e2] at hz
  refine ⟨⟨r, s1, e1, g, t, hv, by rw [Nat.mul_add]; omega⟩, fun v s' q => ?_⟩
  have := hp v s' q
  rw [e, e2] at this
  rw [Nat.mul_add]; omega
end
end Ft
set_option Elab.async false
set_option linter.all false
set_option maxRecDepth 100000
set_option maxHeartbeats 4000000
namespace Ft
open PySem L2
/-- events and kept promises grow -/
def EvLe (s s' : MS) : Prop := s.events.length ≤ s'.events.length ∧ s.kc ≤ s'.kc
theorem EvLe.refl {s : MS} : EvLe s s := ⟨Nat.le_refl _, Nat.le_refl _⟩
theorem EvLe.trans {s s1 s2 : MS} (a : EvLe s s1) (b : EvLe s1 s2) : EvLe s s2 := ⟨Nat.le_trans a.1 b.1, Nat.le_trans a.2 b.2⟩
def GR (Z : Lim) (s : MS) (x : Res) : Prop := ∀ r s', x = some (r, s') → Good Z s' ∧ (∀ v, r = .ok v → VOk Z v) ∧ s.ran.length ≤ s'.ran.length ∧ EvLe s s' ∧ ∀ m ∈ s.table, m ∈ s'.table
section
variable {Z : Lim} {s s1 : MS}
theorem GR.ok {v : Val} (g : Good Z s1) (hv : VOk Z v) (h1 : s.ran.length ≤ s1.ran.length) (h2 : EvLe s s1) (h3 : ∀ m ∈ s.table, m ∈ s1.table) : GR Z s (okR v s1) := fun r s' e => by
  cases e
  exact ⟨g, (fun u q => by cases q; exact hv), h1, h2, h3⟩
theorem GR.no {e : Flt} (g : Good Z s1) (h1 : s.ran.length ≤ s1.ran.length) (h2 : EvLe s s1) (h3 : ∀ m ∈ s.table, m ∈ s1.table) : GR Z s (noR e s1) := fun r s' q => by
  cases q
  exact ⟨g, (fun u q => by cases q), h1, h2, h3⟩
theorem GR.none : GR Z s none := fun r s' q => by cases q
theorem GR.from {s0 : MS} {x : Res} (h : GR Z s x) (h1 : s0.ran.length ≤ s.ran.length) (h2 : EvLe s0 s) (h3 : ∀ m ∈ s0.table, m ∈ s.table) : GR Z s0 x := fun r s' q => by
  obtain ⟨g, hv, a, b, c⟩ := h r s' q
  exact ⟨g, hv, Nat.le_trans h1 a, h2.trans b, fun m hm => c m (h3 m hm)⟩
end
end Ft
set_option Elab.async false
set_option linter.all false
set_option maxRecDepth 100000
set_option maxHeartbeats 4000000
namespace Ft
open PySem L2
def TupS (H H' : Hp) : Prop := ∀ b xs, H b = some (.tup xs) → H' b = some (.tup xs)
theorem TupS.refl {H : Hp} : TupS H H := fun _ _ h => h
theorem TupS.trans {H H1 H2 : Hp} (a : TupS H H1) (b : TupS H1 H2) : TupS H H2 := fun x xs h => b x xs (a x xs h)
theorem TupS.same {H H' : Hp} (s : Same H H') : TupS H H' := fun b xs h => s _ _ h
theorem TupS.put {H : Hp} {q : Addr} {o u : HO} (h : H q = some u) (hu : ∀ xs, u ≠ .tup xs) : TupS H (upd H q o) := fun b xs e => by
  rw [upd_ne (ne_of e h fun z => hu xs z.symm)]; exact e
def ValAt (H : Hp) (v : V) : Val → Prop
  | .num i => v = .int i
  | .mod m => ∃ t, v = .ref t ∧ H t = some (.tup [.str "module", .str m])
  | .fn h p => ∃ t q, v = .ref t ∧ H t = some (.tup [.str "function", .str h, .ref q]) ∧ H q = some (.tup (p.map V.int))
  | .pr1 m => ∃ t, v = .ref t ∧ H t = some (.tup [.str "promise", .str m])
  | .pr2 m p => ∃ t, v = .ref t ∧ H t = some (.tup [.str "promise", .str m, .str p])
def FltAt (H : Hp) (v : V) : Flt → Prop
  | .absent m => ∃ t, v = .ref t ∧ H t = some (.tup [.str "absent", .str m])
  | .name n => ∃ t, v = .ref t ∧ H t = some (.tup [.str "name", .str n])
  | .part m p => ∃ t, v = .ref t ∧ H t = some (.tup [.str "part", .str m, .str p])
  | .kind n => ∃ t, v = .ref t ∧ H t = some (.tup [.str "kind", .str n])
  | .fail i => ∃ t, v = .ref t ∧ H t = some (.tup [.str "fail", .int i])
  | .ring m n => ∃ t, v = .ref t ∧ H t = some (.tup [.str "ring", .str m, .str n])
  | .long => ∃ t, v = .ref t ∧ H t = some (.tup [.str "long"])
theorem ValAt.to {H H' : Hp} {v : V} {x : Val} (h : ValAt H v x) (t : TupS H H') : ValAt H' v x := by
  cases x with
  | num i => exact h
  | mod m => obtain ⟨a, e, h⟩ := h; exact ⟨a, e, t _ _ h⟩
  | fn m p => obtain ⟨a, q, e, h, h2⟩ := h; exact ⟨a, q, e, t _ _ h, t _ _ h2⟩
  | pr1 m => obtain ⟨a, e, h⟩ := h; exact ⟨a, e, t _ _ h⟩
  | pr2 m p => obtain ⟨a, e, h⟩ := h; exact ⟨a, e, t _ _ h⟩
theorem FltAt.to {H H' : Hp} {v : V} {x : Flt} (h : FltAt H v x) (t : TupS H H') : FltAt H' v x := by
  cases x <;> (obtain ⟨a, e, h⟩ := h; exact ⟨a, e, t _ _ h⟩)
def EvAt (H : Hp) (v : V) (x : Val) : Prop := ∃ t u w, v = .ref t ∧ H t = some (.tup [u, w]) ∧ ValAt H u x
theorem EvAt.to {H H' : Hp} {v : V} {x : Val} (h : EvAt H v x) (t : TupS H H') : EvAt H' v x := by
  obtain ⟨a, u, w, e, h, h2⟩ := h
  exact ⟨a, u, w, e, t _ _ h, h2.to t⟩
def PairAt (H : Hp) (v : V) (x : Str × Str) : Prop := ∃ t, v = .ref t ∧ H t = some (.tup [.str x.1, .str x.2])
theorem PairAt.to {H H' : Hp} {v : V} {x : Str × Str} (h : PairAt H v x) (t : TupS H H') : PairAt H' v x := by
  obtain ⟨a, e, h⟩ := h
  exact ⟨a, e, t _ _ h⟩
theorem At.tups {ok : Addr → Prop} {H H' : Hp} {v : V} {xs : List V} {s : Bool} (t : TupS H H') (h : At ok (tupK s) H v xs) : At ok (tupK s) H' v xs := by
  obtain ⟨a, kd, e, k, q, m⟩ := h
  have q' : kd = false := q
  subst q'
  exact ⟨a, false, e, k, q, t _ _ m⟩
theorem RowAt.tups {ok : Addr → Prop} {H H' : Hp} (t : TupS H H') : ∀ (d : Nat) (v : V) (r : Row), RowAt ok tupK H d v r → RowAt ok tupK H' d v r := by
  intro d
  induction d with
  | zero =>
    intro v r h
    cases r with
    | plain w fs => exact At.tups t h
    | _ => exact h.elim
  | succ d ih =>
    intro v r h
    cases r with
    | plain w fs => exact At.tups t h
    | make n b =>
      obtain ⟨vb, xs, h1, h2, h3⟩ := h
      exact ⟨vb, xs, At.tups t h1, At.tups t h2, paired_imp h3 ih⟩
    | when n b c =>
      obtain ⟨vb, xs, vc, ys, h1, h2, h3, h4, h5⟩ := h
      exact ⟨vb, xs, vc, ys, At.tups t h1, At.tups t h2, paired_imp h3 ih, At.tups t h4, paired_imp h5 ih⟩
    | try_ b c =>
      obtain ⟨vb, xs, vc, ys, h1, h2, h3, h4, h5⟩ := h
      exact ⟨vb, xs, vc, ys, At.tups t h1, At.tups t h2, paired_imp h3 ih, At.tups t h4, paired_imp h5 ih⟩
theorem RowsAt.tups {ok : Addr → Prop} {H H' : Hp} {d : Nat} {v : V} {rs : List Row} (h : RowsAt ok tupK H d v rs) (t : TupS H H') : RowsAt ok tupK H' d v rs := by
  obtain ⟨xs, h1, h2⟩ := h
  exact ⟨xs, At.tups t h1, paired_imp h2 (RowAt.tups t d)⟩
theorem LibAt.tups {ok : Addr → Prop} {H H' : Hp} {kvs : List (Key × V)} {lib : Lib} (h : LibAt ok tupK H kvs lib) (t : TupS H H') : LibAt ok tupK H' kvs lib := paired_imp h fun _ _ q => ⟨q.1, q.2.tups t⟩
def DAt {β : Type} (R : V → β → Prop) (kvs : List (Key × V)) (l : List (Str × β)) : Prop := Paired (fun (kv : Key × V) (m : Str × β) => kv.1 = Sum.inr m.1 ∧ R kv.2 m.2) kvs l
section
variable {β : Type} {R S : V → β → Prop} {kvs : List (Key × V)} {l : List (Str × β)}
theorem DAt.imp (h : DAt R kvs l) (f : ∀ v b, R v b → S v b) : DAt S kvs l := paired_imp h fun _ _ q => ⟨q.1, f _ _ q.2⟩
theorem valV_cons {kv : Key × V} {kvs : List (Key × V)} {k : Key} : valV (kv :: kvs) k = if kv.1 = k then some kv.2 else valV kvs k := by
  unfold valV
  by_cases e : kv.1 = k
  · rw [List.find?_cons_of_pos (by exact decide_eq_true e), if_pos e]; rfl
  · rw [List.find?_cons_of_neg (by simp [e]), if_neg e]
theorem DAt.val (h : DAt R kvs l) (z : Str) : (lookA l z = none ∧ valV kvs (Sum.inr z) = none) ∨ ∃ b v, lookA l z = some b ∧ valV kvs (Sum.inr z) = some v ∧ R v b := by
  induction h with
  | nil => exact .inl ⟨rfl, rfl⟩
  | cons r t ih =>
    rename_i kv m kvs' l'
    rw [lookA_cons, valV_cons, r.1]
    by_cases e : m.1 = z
    · rw [if_pos e, if_pos (by rw [e])]
      exact .inr ⟨_, _, rfl, rfl, r.2⟩
    · rw [if_neg e, if_neg (fun q => e (Sum.inr.inj q))]
      exact ih
theorem DAt.none (h : DAt R kvs l) {z : Str} (e : lookA l z = none) : valV kvs (Sum.inr z) = none := by
  rcases h.val z with ⟨_, h2⟩ | ⟨b, v, h1, _⟩
  · exact h2
  · rw [e] at h1; cases h1
theorem DAt.some (h : DAt R kvs l) {z : Str} {b : β} (e : lookA l z = some b) : ∃ v, valV kvs (Sum.inr z) = some v ∧ R v b := by
  rcases h.val z with ⟨h1, _⟩ | ⟨b2, v, h1, h2, h3⟩
  · rw [e] at h1; cases h1
  · rw [e] at h1; cases h1; exact ⟨v, h2, h3⟩
theorem DAt.len (h : DAt R kvs l) : kvs.length = l.length := paired_len h
theorem DAt.keys (h : DAt R kvs l) : kvs.map (·.1) = (l.map (·.1)).map Sum.inr := by
  induction h with
  | nil => rfl
  | cons r t ih => rw [List.map_cons, List.map_cons, List.map_cons, ih, r.1]
theorem DAt.any (h : DAt R kvs l) (z : Str) : (kvs.any fun kv => decide (kv.1 = Sum.inr z)) = (l.any fun m => decide (m.1 = z)) := by
  induction h with
  | nil => rfl
  | cons r t ih =>
    rename_i kv m _ _
    rw [List.any_cons, List.any_cons, ih, r.1]
    congr 1
    by_cases e : m.1 = z
    · rw [e]; simp
    · have : ¬ (Sum.inr m.1 : Key) = Sum.inr z := fun h => e (Sum.inr.inj h)
      rw [decide_eq_false e, decide_eq_false this]
theorem DAt.put (h : DAt R kvs l) {z : Str} {v : V} {b : β} (hv : R v b) : DAt R (putK kvs (Sum.inr z) v) (putA l z b) := by
  unfold putK putA
  rw [h.any z]
  split
  · have go : ∀ {kvs : List (Key × V)} {l : List (Str × β)}, DAt R kvs l → DAt R (kvs.map (fun kv => if kv.1 = Sum.inr z then (kv.1, v) else kv)) (l.map (fun m => if m.1 = z then (m.1, b) else m)) := by
      intro kvs l h
      induction h with
      | nil => exact .nil
      | cons r t ih =>
        refine .cons ?_ ih
        rename_i kv m _ _
        dsimp only
        by_cases e : m.1 = z
        · have e2 : kv.1 = Sum.inr z := by rw [r.1, e]
          rw [if_pos e, if_pos e2]
          exact ⟨r.1, hv⟩
        · have e2 : ¬ kv.1 = Sum.inr z := by rw [r.1]; exact fun q => e (Sum.inr.inj q)
          rw [if_neg e, if_neg e2]
          exact r
    exact go h
  · exact paired_app ⟨rfl, hv⟩ h
theorem DAt.drop (h : DAt R kvs l) {z : Str} : DAt R (dropK kvs (Sum.inr z)) (dropA l z) := by
  unfold dropK dropA
  induction h with
  | nil => exact .nil
  | cons r t ih =>
    rename_i kv m _ _
    by_cases e : m.1 = z
    · have e2 : kv.1 = Sum.inr z := by rw [r.1, e]
      rw [List.filter_cons_of_neg (by simp [e2]), List.filter_cons_of_neg (by simp [e])]
      exact ih
    · have e2 : ¬ kv.1 = Sum.inr z := by rw [r.1]; exact fun q => e (Sum.inr.inj q)
      rw [List.filter_cons_of_pos (by simp [e2]), List.filter_cons_of_pos (by simp [e])]
      exact .cons r ih
end
end Ft
set_option Elab.async false
set_option linter.all false
set_option maxRecDepth 100000
set_option maxHeartbeats 4000000
namespace Ft
open PySem L2
inductive DT where
  | at (v : V)
  | sq (kd : Bool) (ts : List DT)
def DtAt (H : Hp) : Nat → V → DT → Prop
  | _, v, .at x => v = x ∧ isAtom x = true
  | m + 1, v, .sq kd ts => ∃ a xs, v = .ref a ∧ H a = some (mkO kd xs) ∧ ts.length ≤ 16000000 ∧ Paired (DtAt H m) xs ts
  | 0, _, .sq _ _ => False
theorem DtAt.to {H H' : Hp} (t : ∀ a kd xs, H a = some (mkO kd xs) → H' a = some (mkO kd xs)) : ∀ {m : Nat} {v : V} {d : DT}, DtAt H m v d → DtAt H' m v d := by
  intro m
  induction m with
  | zero =>
    intro v d h
    cases d with
    | «at» x => exact h
    | sq kd ts => exact h.elim
  | succ m ih =>
    intro v d h
    cases d with
    | «at» x => exact h
    | sq kd ts =>
      obtain ⟨a, xs, e, h1, h2, h3⟩ := h
      have go : ∀ {xs : List V} {ts : List DT}, Paired (DtAt H m) xs ts → Paired (DtAt H' m) xs ts := by
        intro xs ts h
        induction h with
        | nil => exact .nil
        | cons r _ ih2 => exact .cons (ih r) ih2
      exact ⟨a, xs, e, t _ _ _ h1, h2, go h3⟩
theorem seqT_list (kd : Bool) : kitB (seqT kd) "list" = some kd := by cases kd <;> decide +kernel
theorem seqT_tuple (kd : Bool) : kitB (seqT kd) "tuple" = some (!kd) := by cases kd <;> decide +kernel
def isIntB : V → Bool
  | .int _ => true
  | .bl _ => true
  | _ => false
def isBl : V → Bool
  | .bl _ => true
  | _ => false
theorem atom_bi {x : V} (h : isAtom x = true) : kitAnyB (atomT x) ["bool", "int"] = some (isIntB x) := by
  cases x with
  | non => decide +kernel
  | bl b => show kitAnyB "bool" ["bool", "int"] = some true; decide +kernel
  | int i => show kitAnyB "int" ["bool", "int"] = some true; decide +kernel
  | str z => show kitAnyB "str" ["bool", "int"] = some false; decide +kernel
  | _ => cases h
theorem atom_int {x : V} (h : isAtom x = true) : kitB (atomT x) "int" = some (isIntB x) := by
  cases x with
  | non => decide +kernel
  | bl b => show kitB "bool" "int" = some true; decide +kernel
  | int i => show kitB "int" "int" = some true; decide +kernel
  | str z => show kitB "str" "int" = some false; decide +kernel
  | _ => cases h
theorem atom_bool {x : V} (h : isAtom x = true) : kitB (atomT x) "bool" = some (isBl x) := by
  cases x with
  | non => decide +kernel
  | bl b => show kitB "bool" "bool" = some true; decide +kernel
  | int i => show kitB "int" "bool" = some false; decide +kernel
  | str z => show kitB "str" "bool" = some false; decide +kernel
  | _ => cases h
theorem atom_blt {x : V} (h : isAtom x = true) (hb : isIntB x = false) : kitAnyB (atomT x) ["bool", "list", "tuple"] = some false := by
  cases x with
  | non => decide +kernel
  | str z => show kitAnyB "str" ["bool", "list", "tuple"] = some false; decide +kernel
  | bl b => cases hb
  | int i => cases hb
  | _ => cases h
end Ft
set_option Elab.async false
set_option linter.all false
set_option maxRecDepth 100000
set_option maxHeartbeats 4000000
set_option Elab.async false
set_option linter.all false
set_option maxRecDepth 100000
set_option maxHeartbeats 4000000
namespace Ft
open PySem L2
theorem dtAt_at {H : Hp} {m : Nat} {x : V} (h : isAtom x = true) : DtAt H m x (.at x) := by cases m <;> exact ⟨rfl, h⟩
end Ft
set_option Elab.async false
set_option linter.all false
set_option maxRecDepth 100000
set_option maxHeartbeats 4000000
namespace Ft
open PySem PySem.Spec PyProof.Rows L2
mutual
def kOk : DT → Bool
  | .at (.int _) => true
  | .at (.str _) => true
  | .at _ => false
  | .sq kd ts => !kd && kOks ts
def kOks : List DT → Bool
  | [] => true
  | t :: ts => kOk t && kOks ts
end
mutual
def nkD : DT → NestedKey
  | .at (.int i) => .num i
  | .at (.str z) => .text z
  | .at _ => .none
  | .sq _ ts => .tup (nkDs ts)
def nkDs : List DT → List NestedKey
  | [] => []
  | t :: ts => nkD t :: nkDs ts
end
theorem kOk_at {v : V} (h : kOk (.at v) = true) : (∃ i, v = .int i) ∨ ∃ z, v = .str z := by
  cases v with
  | int i => exact .inl ⟨i, rfl⟩
  | str z => exact .inr ⟨z, rfl⟩
  | _ => simp [kOk] at h
theorem kOk_sq {kd : Bool} {ts : List DT} (h : kOk (.sq kd ts) = true) : kd = false ∧ kOks ts = true := by
  rw [kOk, Bool.and_eq_true] at h
  exact ⟨by simpa using h.1, h.2⟩
mutual
theorem nkD_inj : ∀ (a b : DT), kOk a = true → kOk b = true → nkD a = nkD b → a = b
  | .at v, .at u, ha, hb, h => by
    rcases kOk_at ha with ⟨i, rfl⟩ | ⟨z, rfl⟩ <;> rcases kOk_at hb with ⟨j, rfl⟩ | ⟨y, rfl⟩
    · rw [nkD, nkD] at h; injection h with h; rw [h]
    · rw [nkD, nkD] at h; cases h
    · rw [nkD, nkD] at h; cases h
    · rw [nkD, nkD] at h; injection h with h; rw [h]
  | .at v, .sq kd ts, ha, hb, h => by
    rcases kOk_at ha with ⟨i, rfl⟩ | ⟨z, rfl⟩ <;> (rw [nkD, nkD] at h; cases h)
  | .sq kd ts, .at u, ha, hb, h => by
    rcases kOk_at hb with ⟨i, rfl⟩ | ⟨z, rfl⟩ <;> (rw [nkD, nkD] at h; cases h)
  | .sq k1 t1, .sq k2 t2, ha, hb, h => by
    obtain ⟨e1, o1⟩ := kOk_sq ha
    obtain ⟨e2, o2⟩ := kOk_sq hb
    rw [nkD, nkD] at h
    injection h with h
    rw [e1, e2, nkDs_inj t1 t2 o1 o2 h]
theorem nkDs_inj : ∀ (a b : List DT), kOks a = true → kOks b = true → nkDs a = nkDs b → a = b
  | [], [], _, _, _ => rfl
  | [], _ :: _, _, _, h => by rw [nkDs, nkDs] at h; cases h
  | _ :: _, [], _, _, h => by rw [nkDs, nkDs] at h; cases h
  | a :: as, b :: bs, ha, hb, h => by
    rw [kOks, Bool.and_eq_true] at ha hb
    rw [nkDs, nkDs] at h
    obtain ⟨h1, h2⟩ := List.cons.inj h
    rw [nkD_inj a b ha.1 hb.1 h1, nkDs_inj as bs ha.2 hb.2 h2]
end
theorem DtAt.tupK {H H' : Hp} (t : TupS H H') : ∀ {m : Nat} {v : V} {d : DT}, kOk d = true → DtAt H m v d → DtAt H' m v d := by
  intro m
  induction m with
  | zero =>
    intro v d ho h
    cases d with
    | «at» x => exact h
    | sq kd ts => exact h.elim
  | succ m ih =>
    intro v d ho h
    cases d with
    | «at» x => exact h
    | sq kd ts =>
      obtain ⟨e0, ho⟩ := kOk_sq ho
      subst e0
      obtain ⟨a, xs, e, h1, h2, h3⟩ := h
      refine ⟨a, xs, e, t _ _ h1, h2, ?_⟩
      have go : ∀ {xs : List V} {ts : List DT}, kOks ts = true → Paired (DtAt H m) xs ts → Paired (DtAt H' m) xs ts := fun {xs ts} ho h => by
        induction h with
        | nil => exact .nil
        | cons r t ih2 =>
          rw [kOks, Bool.and_eq_true] at ho
          exact .cons (ih ho.1 r) (ih2 ho.2)
      exact go ho h3
section
variable {X : Cx} {pins : List (Addr × Obj)} {σ : L2.St} {H : Hp} {s : Shared}
theorem nested_of (I : Inv X pins σ H s) : ∀ {m : Nat} {v : V} {d : DT} {u : Value}, kOk d = true → DtAt H m v d → RelV v u → NestedIs s.heap (nkD d) u ∧ (nkD d).depth ≤ m := by
  intro m
  induction m with
  | zero =>
    intro v d u ho h r
    cases d with
    | «at» x =>
      obtain ⟨rfl, _⟩ := h
      rcases kOk_at ho with ⟨i, rfl⟩ | ⟨z, rfl⟩
      · obtain ⟨t, rfl⟩ := r; rw [nkD]; exact ⟨.int _ _, Nat.zero_le _⟩
      · obtain ⟨t, rfl⟩ := r; rw [nkD]; exact ⟨.text _ _, Nat.zero_le _⟩
    | sq kd ts => exact h.elim
  | succ m ih =>
    intro v d u ho h r
    cases d with
    | «at» x =>
      obtain ⟨rfl, _⟩ := h
      rcases kOk_at ho with ⟨i, rfl⟩ | ⟨z, rfl⟩
      · obtain ⟨t, rfl⟩ := r; rw [nkD]; exact ⟨.int _ _, Nat.zero_le _⟩
      · obtain ⟨t, rfl⟩ := r; rw [nkD]; exact ⟨.text _ _, Nat.zero_le _⟩
    | sq kd ts =>
      obtain ⟨e0, ho⟩ := kOk_sq ho
      subst e0
      obtain ⟨a, xs, rfl, h1, h2, h3⟩ := h
      obtain rfl : u = Value.ref a := r
      obtain ⟨_, its, rv, o, g1, g2, n, g3⟩ := (show ObjOk X.prog X.w H s.heap a (.tup xs) from I.hok a _ h1)
      have go : ∀ {xs : List V} {ts : List DT} {its : List Value}, kOks ts = true → Paired (DtAt H m) xs ts → Vals xs its → NestedAll s.heap (nkDs ts) its ∧ NestedKey.depthAll (nkDs ts) ≤ m := fun {xs ts} its ho h => by
        induction h generalizing its with
        | nil => intro rv; cases rv; rw [nkDs]; exact ⟨.nil, Nat.zero_le _⟩
        | cons r t ih2 =>
          intro rv
          cases rv with
          | cons r1 rv =>
            rw [kOks, Bool.and_eq_true] at ho
            obtain ⟨a1, a2⟩ := ih ho.1 r r1
            obtain ⟨b1, b2⟩ := ih2 _ ho.2 rv
            rw [nkDs]
            exact ⟨.cons a1 b1, by rw [NestedKey.depthAll]; exact Nat.max_le.mpr ⟨a2, b2⟩⟩
      obtain ⟨c1, c2⟩ := go ho h3 rv
      rw [nkD]
      exact ⟨.tup g1 g2 g3 c1, by rw [NestedKey.depth]; omega⟩
theorem nk_key (I : Inv X pins σ H s) {t : Addr} {d : DT} (ho : kOk d = true) (h : DtAt H 8 (.ref t) d) : (nestedKind X.prog X.w).is s.heap (nkD d) t := nested_of I ho h rfl
end
abbrev KE := DT × Addr × V
def kdE (xs : List KE) (ys : List (NestedKey × Addr × Value)) : Prop := Paired (fun (x : KE) (y : NestedKey × Addr × Value) => y.1 = nkD x.1 ∧ y.2.1 = x.2.1 ∧ RelV x.2.2 y.2.2) xs ys
/-- at a stands the dict of the entries xs, each key told by its own tuple -/
def KdO (P : PySem.Program) (w : World) (a : Addr) (xs : List KE) : HO := .ext fun h => (a == sysModules) = false ∧ ∃ ys, kdE xs ys ∧ ∃ o es ep, h.get? a = some o ∧ o.ExactDict ∧ o.data = .dict es ep ∧ es.toList = ys.map (entryOfKey (nestedKind P w))
structure KdAt (P : PySem.Program) (w : World) (H : Hp) (a : Addr) (xs : List KE) : Prop where
  at_ : H a = some (KdO P w a xs) ∨ (xs = [] ∧ H a = some (.dK []))
  key : ∀ x ∈ xs, DtAt H 8 (.ref x.2.1) x.1 ∧ kOk x.1 = true
  nd : (xs.map (·.1)).Nodup
theorem KdAt.to {P : PySem.Program} {w : World} {H H' : Hp} {a : Addr} {xs : List KE} (h : KdAt P w H a xs) (t : TupS H H') (e : H' a = H a) : KdAt P w H' a xs := ⟨by rw [e]; exact h.at_, fun x hx => ⟨(h.key x hx).1.tupK t (h.key x hx).2, (h.key x hx).2⟩, h.nd⟩
theorem KdAt.ntup {P : PySem.Program} {w : World} {H : Hp} {a : Addr} {xs : List KE} (h : KdAt P w H a xs) : ∃ o, H a = some o ∧ ∀ us, o ≠ .tup us := by
  rcases h.at_ with e | ⟨_, e⟩
  · exact ⟨_, e, fun us z => by cases z⟩
  · exact ⟨_, e, fun us z => by cases z⟩
/-- what the dict has at a key -/
def kdF (xs : List KE) (d : DT) : Option V := (xs.find? fun x => decide (nkD x.1 = nkD d)).map (·.2.2)
def kdS (xs : List KE) (d : DT) (t : Addr) (v : V) : List KE := if (kdF xs d).isSome then xs.map (fun x => if nkD x.1 = nkD d then (x.1, x.2.1, v) else x) else xs ++ [(d, t, v)]
theorem kdF_cons {x : KE} {xs : List KE} {d : DT} : kdF (x :: xs) d = if nkD x.1 = nkD d then some x.2.2 else kdF xs d := by
  unfold kdF
  by_cases h : nkD x.1 = nkD d
  · rw [List.find?_cons_of_pos (by simp [h]), if_pos h]; rfl
  · rw [List.find?_cons_of_neg (by simp [h]), if_neg h]
theorem kdE_at : ∀ {xs : List KE} {ys : List (NestedKey × Addr × Value)}, kdE xs ys → ∀ d : DT, (kdF xs d = none ∧ atKey ys (nkD d) = none) ∨ ∃ v p, kdF xs d = some v ∧ atKey ys (nkD d) = some p ∧ RelV v p.2
  | _, _, .nil, d => .inl ⟨rfl, rfl⟩
  | _, _, .cons (a := x) (b := y) (l₁ := xs) (l₂ := ys) ⟨h1, h2, h3⟩ t, d => by
    rw [kdF_cons]
    by_cases e : nkD x.1 = nkD d
    · rw [if_pos e]
      refine .inr ⟨_, y.2, rfl, ?_, h3⟩
      unfold atKey
      rw [List.find?_cons_of_pos (by simp [h1, e])]; rfl
    · rw [if_neg e]
      have : atKey (y :: ys) (nkD d) = atKey ys (nkD d) := by
        unfold atKey
        rw [List.find?_cons_of_neg (by simp [h1, e])]
      rw [this]
      exact kdE_at t d
theorem kdE_map {d : DT} {v : V} {u : Value} (r : RelV v u) : ∀ {xs : List KE} {ys : List (NestedKey × Addr × Value)}, kdE xs ys → kdE (xs.map fun x => if nkD x.1 = nkD d then (x.1, x.2.1, v) else x) (ys.map (putAt (nkD d) u))
  | _, _, .nil => .nil
  | _, _, .cons (a := x) (b := y) ⟨h1, h2, h3⟩ t => by
    refine .cons ?_ (kdE_map r t)
    unfold putAt
    dsimp only
    by_cases e : nkD x.1 = nkD d
    · rw [if_pos e, if_pos (h1.trans e)]; exact ⟨h1, h2, r⟩
    · rw [if_neg e, if_neg (fun z => e (h1.symm.trans z))]; exact ⟨h1, h2, h3⟩
theorem kdE_app : ∀ {xs xs' : List KE} {ys ys' : List (NestedKey × Addr × Value)}, kdE xs ys → kdE xs' ys' → kdE (xs ++ xs') (ys ++ ys')
  | _, _, _, _, .nil, h => h
  | _, _, _, _, .cons a t, h => .cons a (kdE_app t h)
theorem kdE_put {xs : List KE} {ys : List (NestedKey × Addr × Value)} (h : kdE xs ys) (d : DT) (t : Addr) {v : V} {u : Value} (r : RelV v u) : kdE (kdS xs d t v) (storedH ys (nkD d) t u) := by
  unfold kdS storedH
  rcases kdE_at h d with ⟨e1, e2⟩ | ⟨z, p, e1, e2, _⟩
  · rw [e1, e2, if_neg (by simp), if_neg (by simp)]
    exact kdE_app h (.cons ⟨rfl, rfl, r⟩ .nil)
  · rw [e1, e2, if_pos (show (some z).isSome = true from rfl), if_pos (show (some p).isSome = true from rfl)]
    exact kdE_map r h
theorem kdS_mem {xs : List KE} {d : DT} {t : Addr} {v : V} {y : KE} (h : y ∈ kdS xs d t v) : (∃ x ∈ xs, y.1 = x.1 ∧ y.2.1 = x.2.1 ∧ (y.2.2 = x.2.2 ∨ y.2.2 = v)) ∨ (kdF xs d = none ∧ y = (d, t, v)) := by
  unfold kdS at h
  split at h
  · obtain ⟨x, hx, rfl⟩ := List.mem_map.mp h
    refine .inl ⟨x, hx, ?_⟩
    split
    · exact ⟨rfl, rfl, .inr rfl⟩
    · exact ⟨rfl, rfl, .inl rfl⟩
  · rename_i hn
    rcases List.mem_append.mp h with h | h
    · exact .inl ⟨y, h, rfl, rfl, .inl rfl⟩
    · refine .inr ⟨?_, List.mem_singleton.mp h⟩
      cases q : kdF xs d with | none => rfl | some z => rw [q] at hn; exact absurd rfl hn
theorem kdF_mem {xs : List KE} {d : DT} {v : V} (h : kdF xs d = some v) : ∃ x ∈ xs, nkD x.1 = nkD d ∧ x.2.2 = v := by
  unfold kdF at h
  obtain ⟨x, h1, h2⟩ := Option.map_eq_some_iff.mp h
  exact ⟨x, List.mem_of_find?_eq_some h1, by simpa using List.find?_some h1, h2⟩
theorem kdF_none {xs : List KE} {d : DT} (h : kdF xs d = none) : ∀ x ∈ xs, x.1 ≠ d := by
  unfold kdF at h
  intro x hx e
  have := List.find?_eq_none.mp (Option.map_eq_none_iff.mp h) x hx
  exact this (by simp [e])
theorem KdAt.put {P : PySem.Program} {w : World} {H : Hp} {a : Addr} {xs : List KE} (h : KdAt P w H a xs) {d : DT} {t : Addr} {v : V} (ho : kOk d = true) (hd : DtAt H 8 (.ref t) d) : KdAt P w (upd H a (KdO P w a (kdS xs d t v))) a (kdS xs d t v) := by
  obtain ⟨o, e, nt⟩ := h.ntup
  have tp : TupS H (upd H a (KdO P w a (kdS xs d t v))) := TupS.put e nt
  refine ⟨.inl upd_same, fun y hy => ?_, ?_⟩
  · rcases kdS_mem hy with ⟨x, hx, e1, e2, _⟩ | ⟨_, rfl⟩
    · rw [e1, e2]
      obtain ⟨k1, k2⟩ := h.key x hx
      exact ⟨k1.tupK tp k2, k2⟩
    · exact ⟨hd.tupK tp ho, ho⟩
  · cases q : kdF xs d with
    | some z =>
      unfold kdS
      rw [q, if_pos (show (some z).isSome = true from rfl), List.map_map]
      have : ((fun x : KE => x.1) ∘ fun x => if nkD x.1 = nkD d then (x.1, x.2.1, v) else x) = fun x => x.1 := by
        funext x
        show (if _ then _ else _ : KE).1 = _
        split <;> rfl
      rw [this]
      exact h.nd
    | none =>
      unfold kdS
      rw [q, if_neg (by simp), List.map_append]
      refine List.nodup_append.mpr ⟨h.nd, by simp, fun x hx y hy => ?_⟩
      obtain ⟨z, hz, rfl⟩ := List.mem_map.mp hx
      rw [List.mem_singleton.mp hy]
      exact kdF_none q z hz
section
variable {X : Cx} {pins : List (Addr × Obj)} {σ : L2.St} {H : Hp} {s : Shared}
theorem kd_dict (I : Inv X pins σ H s) {a : Addr} {xs : List KE} (h : KdAt X.prog X.w H a xs) : (a == sysModules) = false ∧ ∃ ys, kdE xs ys ∧ s.heap.DictOfH (nestedKind X.prog X.w) a ys := by
  rcases h.at_ with e | ⟨rfl, e⟩
  · obtain ⟨⟨nm, ys, hk, o, es, ep, h1, h2, h3, h4⟩, _, _⟩ := (show ObjOk X.prog X.w H s.heap a (KdO X.prog X.w a xs) from I.hok a _ e)
    refine ⟨nm, ys, hk, o, es, ep, h1, h2, h3, h4, ?_, ?_⟩
    · have go : ∀ {xs : List KE} {ys : List (NestedKey × Addr × Value)}, kdE xs ys → (∀ x ∈ xs, DtAt H 8 (.ref x.2.1) x.1 ∧ kOk x.1 = true) → ∀ y ∈ ys, (nestedKind X.prog X.w).is s.heap y.1 y.2.1 := fun {xs ys} p => by
        induction p with
        | nil => intro _ y hy; cases hy
        | cons r t ih =>
          intro hx y hy
          rcases List.mem_cons.mp hy with e | hy
          · obtain ⟨k1, k2⟩ := hx _ List.mem_cons_self
            rw [e, r.1, r.2.1]
            exact nk_key I k2 k1
          · exact ih (fun x hx' => hx x (List.mem_cons_of_mem _ hx')) y hy
      exact go hk h.key
    · have e2 : ∀ {xs : List KE} {ys : List (NestedKey × Addr × Value)}, kdE xs ys → ys.map (·.1) = (xs.map (·.1)).map nkD := fun {xs ys} p => by
        induction p with
        | nil => rfl
        | cons r t ih => rw [List.map_cons, List.map_cons, List.map_cons, ih, r.1]
      rw [e2 hk]
      have go : ∀ {l : List KE}, (∀ x ∈ l, kOk x.1 = true) → (l.map (·.1)).Nodup → ((l.map (·.1)).map nkD).Nodup := fun {l} => by
        induction l with
        | nil => intro _ _; exact List.nodup_nil
        | cons x l ih =>
          intro hx nd
          rw [List.map_cons, List.nodup_cons] at nd
          rw [List.map_cons, List.map_cons, List.nodup_cons]
          refine ⟨fun hm => ?_, ih (fun y hy => hx y (List.mem_cons_of_mem _ hy)) nd.2⟩
          obtain ⟨d, hd, e⟩ := List.mem_map.mp hm
          obtain ⟨y, hy, rfl⟩ := List.mem_map.mp hd
          have := nkD_inj _ _ (hx y (List.mem_cons_of_mem _ hy)) (hx x List.mem_cons_self) e
          exact nd.1 (this ▸ List.mem_map.mpr ⟨y, hy, rfl⟩)
      exact go (fun x hx => (h.key x hx).2) h.nd
  · obtain ⟨_, nm, vs, kv, o, es, ep, h1, h2, h3, h4, h5, h6⟩ := (show ObjOk X.prog X.w H s.heap a (.dK []) from I.hok a _ e)
    cases kv
    cases hl : es.toList with
    | cons x l => rw [hl] at h5; cases h5
    | nil => exact ⟨nm, [], .nil, o, es, ep, h1, h2, h3, hl, (fun _ h => nomatch h), List.nodup_nil⟩
end
section
variable {X : Cx}
/-- d[state] = v -/
def rSetN (P : PySem.Program) (w : World) : TSet := fun o i v H Q => ∃ (a t : Addr) (d : DT) (xs : List KE), o = .ref a ∧ i = .ref t ∧ KdAt P w H a xs ∧ kOk d = true ∧ DtAt H 8 (.ref t) d ∧ xs.length ≤ 1000 ∧ Q (upd H a (KdO P w a (kdS xs d t v)))
theorem kdE_len : ∀ {xs : List KE} {ys : List (NestedKey × Addr × Value)}, kdE xs ys → xs.length = ys.length
  | _, _, .nil => rfl
  | _, _, .cons _ t => by rw [List.length_cons, List.length_cons, kdE_len t]
theorem set_N (hu : X.A.units + 64 < cLine) : PSet X (rSetN X.prog X.w) := by
  intro pins s σ H o i v ov iv u Q I ro ri rv h
  obtain ⟨a, t, d, xs, rfl, rfl, hd, ho, hk, hl, q⟩ := h
  obtain rfl : ov = Value.ref a := ro
  obtain rfl : iv = Value.ref t := ri
  obtain ⟨nm, ys, he, hD⟩ := kd_dict I hd
  have hly := kdE_len he
  refine wpAny_setItem_heap (knd := nestedKind X.prog X.w) (k := nkD d) (hsz := by have : 1000 ≤ sizeLine := by decide
                                                                                   omega) (by show X.A.units + 1 + 8 < cLine; omega) (nk_key I ho hk) hD fun h' hD' sb => ?_
  obtain ⟨o1, es, ep, h1, h2, h3, h4, _, _⟩ := hD'
  refine ⟨_, I.write (x := a) (e := a) (o := KdO X.prog X.w a (kdS xs d t v)) ?_ (.inl rfl) (fun b u hb q => (sb.2 b hb).trans q) ⟨_, h1⟩ ?_, q⟩
  · rcases hd.at_ with e | ⟨_, e⟩ <;> (rw [e]; trivial)
  · refine ⟨⟨nm, _, kdE_put he d t rv, o1, es, ep, h1, h2, h3, h4⟩, ⟨_, h1⟩, fun g1 g2 ⟨nm', ys', hk', o', es', ep', e1, e2, e3, e4⟩ hkk => ⟨nm', ys', hk', o', es', ep', hkk _ e1, e2, e3, e4⟩⟩
theorem opPW {X : Cx} {P : PySem.Program} {w : World} {f : Value → Value → Sem Value} (r : PySem.Program → World → R2) (h : OpR X f (r X.prog X.w)) (e : X.prog = P) (e2 : X.w = w) : OpR X f (r P w) := by subst e; subst e2; exact h
/-- pair in d -/
def rInKd (P : PySem.Program) (w : World) : R2 := fun x y H Q => ∃ (a t : Addr) (d : DT) (xs : List KE), x = .ref t ∧ y = .ref a ∧ KdAt P w H a xs ∧ kOk d = true ∧ DtAt H 8 (.ref t) d ∧ Q (.bl (kdF xs d).isSome) H
theorem op_inKd (hu : X.A.units + 64 < cLine) : OpR X (compareOp .In) (rInKd X.prog X.w) := by
  intro pins s σ H x y v u Q I rx ry h
  obtain ⟨a, t, d, xs, rfl, rfl, hd, ho, hk, q⟩ := h
  obtain rfl : v = Value.ref t := rx
  obtain rfl : u = Value.ref a := ry
  obtain ⟨nm, ys, he, hD⟩ := kd_dict I hd
  have ev : (valueAt (pairsH ys) (nkD d)).isSome = (kdF xs d).isSome := by
    rw [valueAt_pairsH]
    rcases kdE_at he d with ⟨e1, e2⟩ | ⟨z, p, e1, e2, _⟩ <;> (rw [e1, e2]; rfl)
  refine in_keyed (knd := nestedKind X.prog X.w) (k := nkD d) (kvs := pairsH ys) (by show X.A.units + 1 + 8 < cLine; omega) (nk_key I ho hk) nm ⟨_, hD, rfl⟩ ?_
  rw [ev]
  exact ⟨.bl _, H, I.tok _, rfl, q⟩
end
end Ft
set_option Elab.async false
set_option linter.all false
set_option maxRecDepth 100000
set_option maxHeartbeats 1000000
set_option pp.maxSteps 1500
namespace Ft
open PySem L2
def prT (q : Str × Str) : DT := .sq false [.at (.str q.1), .at (.str q.2)]
theorem prT_inj {p q : Str × Str} (h : prT p = prT q) : p = q := by
  obtain ⟨a, b⟩ := p
  obtain ⟨c, d⟩ := q
  unfold prT at h
  simp only [DT.sq.injEq, List.cons.injEq, DT.at.injEq, V.str.injEq] at h
  rw [h.2.1, h.2.2.1]
theorem prT_ok (q : Str × Str) : kOk (prT q) = true := rfl
theorem prT_at {H : Hp} {t : Addr} {q : Str × Str} (h : H t = some (.tup [.str q.1, .str q.2])) : DtAt H 8 (.ref t) (prT q) :=
  ⟨t, _, rfl, h, by show 2 ≤ 16000000; decide, .cons (dtAt_at rfl) (.cons (dtAt_at rfl) .nil)⟩
/-- the words that may stand there -/
def nw55 : List Str := ["a", "b", "c", "d", "zz", "m", "lib", "gone"]
structure WyAt (P : PySem.Program) (w : World) (H : Hp) (D : Addr) (ps : List (Str × Str)) : Prop where
  at_ : ∃ xs, KdAt P w H D xs ∧ xs.map (·.1) = ps.map prT
  nd : ps.Nodup
  nw : ∀ q ∈ ps, q.1 ∈ nw55 ∧ q.2 ∈ nw55
section
variable {P : PySem.Program} {w : World} {H : Hp} {D : Addr} {ps : List (Str × Str)}
theorem WyAt.to {H' : Hp} (h : WyAt P w H D ps) (t : TupS H H') (e : H' D = H D) : WyAt P w H' D ps := by
  obtain ⟨xs, k, q⟩ := h.at_
  exact ⟨⟨xs, k.to t e, q⟩, h.nd, h.nw⟩
theorem WyAt.same {H' : Hp} (h : WyAt P w H D ps) (s : Same H H') : WyAt P w H' D ps := by
  obtain ⟨xs, k, q⟩ := h.at_
  obtain ⟨o, e, _⟩ := k.ntup
  exact h.to (TupS.same s) (by rw [e]; exact s _ _ e)
theorem WyAt.nil (h : H D = some (.dK [])) : WyAt P w H D [] := ⟨⟨[], ⟨.inr ⟨rfl, h⟩, (fun _ z => nomatch z), List.nodup_nil⟩, rfl⟩, List.nodup_nil, fun _ z => nomatch z⟩
theorem WyAt.ne (h : WyAt P w H D ps) {x : Addr} {kd : Bool} {xs : List V} (e : H x = some (mkO kd xs)) : x ≠ D := fun z => by
  obtain ⟨ys, k, _⟩ := h.at_
  rw [z] at e
  rcases k.at_ with e2 | ⟨_, e2⟩ <;> (rw [e2] at e; cases kd <;> cases e)
theorem wy_len (h : ps.Nodup) (n : ∀ q ∈ ps, q.1 ∈ nw55 ∧ q.2 ∈ nw55) : ps.length ≤ 64 := by
  have := sub_len55 (ms := nw55.flatMap fun a => nw55.map fun b => (a, b)) h fun q hq => List.mem_flatMap.mpr ⟨q.1, (n q hq).1, List.mem_map.mpr ⟨q.2, (n q hq).2, rfl⟩⟩
  exact this
theorem wy_find {xs : List KE} (k : ∀ x ∈ xs, kOk x.1 = true) (e : xs.map (·.1) = ps.map prT) (q : Str × Str) : (kdF xs (prT q)).isSome = decide (q ∈ ps) := by
  rw [Bool.eq_iff_iff, decide_eq_true_iff]
  have mem : q ∈ ps ↔ ∃ x ∈ xs, x.1 = prT q := by
    constructor
    · intro h
      have : prT q ∈ xs.map (·.1) := by rw [e]; exact List.mem_map.mpr ⟨q, h, rfl⟩
      obtain ⟨x, hx, z⟩ := List.mem_map.mp this
      exact ⟨x, hx, z⟩
    · rintro ⟨x, hx, z⟩
      have : prT q ∈ ps.map prT := by rw [← e]; exact List.mem_map.mpr ⟨x, hx, z⟩
      obtain ⟨y, hy, z2⟩ := List.mem_map.mp this
      exact prT_inj z2 ▸ hy
  rw [mem]
  constructor
  · intro h
    obtain ⟨v, hv⟩ := Option.isSome_iff_exists.mp h
    obtain ⟨x, hx, z, _⟩ := kdF_mem hv
    exact ⟨x, hx, nkD_inj _ _ (k x hx) (prT_ok q) z⟩
  · rintro ⟨x, hx, z⟩
    cases c : kdF xs (prT q) with
    | some v => rfl
    | none => exact absurd z (kdF_none c x hx)
theorem WyAt.in_ (h : WyAt P w H D ps) {t : Addr} {q : Str × Str} {Q : VK} (ht : H t = some (.tup [.str q.1, .str q.2])) (k : Q (.bl (decide (q ∈ ps))) H) : rInKd P w (.ref t) (.ref D) H Q := by
  obtain ⟨xs, kd, e⟩ := h.at_
  refine ⟨D, t, prT q, xs, rfl, rfl, kd, prT_ok q, prT_at ht, ?_⟩
  rw [wy_find (fun x hx => (kd.key x hx).2) e]
  exact k
theorem WyAt.put (h : WyAt P w H D ps) {t : Addr} {q : Str × Str} {Q : Hp → Prop} (ht : H t = some (.tup [.str q.1, .str q.2])) (hq : q.1 ∈ nw55 ∧ q.2 ∈ nw55)
    (k : ∀ H', WyAt P w H' D (putP ps q) → Fr (· ≠ D) H H' → TupS H H' → Q H') : rSetN P w (.ref D) (.ref t) (.bl true) H Q := by
  obtain ⟨xs, kd, e⟩ := h.at_
  obtain ⟨o, eo, nt⟩ := kd.ntup
  have lx : xs.length ≤ 64 := by
    have := congrArg List.length e
    rw [List.length_map, List.length_map] at this
    rw [this]; exact wy_len h.nd h.nw
  have fnd := wy_find (fun x hx => (kd.key x hx).2) e q
  refine ⟨D, t, prT q, xs, rfl, rfl, kd, prT_ok q, prT_at ht, by omega, k _ ⟨⟨_, kd.put (prT_ok q) (prT_at ht), ?_⟩, nd_putP h.nd, fun x hx => (mem_putP.mp hx).elim (h.nw x) fun z => z ▸ hq⟩ (Fr.put fun z => z rfl) (TupS.put eo nt)⟩
  unfold kdS putP
  rw [fnd]
  by_cases c : q ∈ ps
  · rw [decide_eq_true c, if_pos (show true = true from rfl), if_pos c, ← e, List.map_map]
    refine List.map_congr_left fun x _ => ?_
    show (if _ then _ else _ : KE).1 = _
    split <;> rfl
  · rw [decide_eq_false c, if_neg (by simp), if_neg c, List.map_append, List.map_append, e]; rfl
end
theorem walk_row55 : ∀ {d : Nat} {wi : Bool} {rs : List Row}, (∀ r ∈ rs, RowOk d wi r) → ∀ {p : List Int} {q : List Int × Row}, q ∈ walkL d p rs → ∃ wi', RowOk d wi' q.2 := by
  intro d
  induction d with
  | zero =>
    intro wi rs h p q hq
    obtain ⟨⟨r, i⟩, hr, hq⟩ := List.mem_flatMap.mp hq
    have rok := h r (mem_zipIdx_fst hr)
    have e : q = (p ++ [(i : Int)], r) := List.mem_singleton.mp hq
    exact ⟨wi, by rw [e]; exact rok⟩
  | succ d ih =>
    intro wi rs h p q hq
    obtain ⟨⟨r, i⟩, hr, hq⟩ := List.mem_flatMap.mp hq
    have rok := h r (mem_zipIdx_fst hr)
    rw [rowW_eq rok] at hq
    rcases List.mem_cons.mp hq with e | hq
    · exact ⟨wi, by rw [e]; exact rok⟩
    · obtain ⟨⟨b, j⟩, hb, hq⟩ := List.mem_flatMap.mp hq
      obtain ⟨e, he, _, hr2⟩ := blk_ok rok (mem_zipIdx_fst hb)
      have ee : d = e := Nat.succ.inj he
      subst ee
      obtain ⟨wi', o⟩ := ih hr2 hq
      exact ⟨wi', rowOk_mono _ _ _ o⟩
end Ft
set_option Elab.async false
set_option linter.all false
set_option maxRecDepth 100000
set_option maxHeartbeats 1000000
set_option pp.maxSteps 2500
set_option pp.deepTerms.threshold 8
namespace Ft
open PySem L2 PySem.W
section
variable {P : Program} {w : World} {K : PySem.W.Frag} {mg : Str → Option Value} {base : Heap}
abbrev sLRings : Stmt := topS 40
theorem scLRings : FnScope ["_law_modules", "_law_words", "_law_ways", "_law_word", "_law_path", "_law_row", "_law_middle", "_law_one", "_law_other", "_law_found", "_law_nth", "_law_ring"] ["_law_modules"] (defScope sLRings) := ⟨rfl, rfl, rfl, by decide +kernel, rfl, by decide +kernel, by decide +kernel⟩
def LibW55 (lib : Lib) : Prop := ∀ m ∈ lib, m.1 ∈ nw55 ∧ ∀ o ∈ nmL 3 m.2, o ∈ nw55
def spLRings : Sp := fun vs H Q _ => ∃ (d : Addr) (ok : Addr → Prop) (kvs : List (Key × V)) (lib : Lib), vs = [.ref d] ∧ H d = some (.dK kvs) ∧ LibAt ok mixK H kvs lib ∧ LibOk lib ∧ LibW55 lib ∧
  ∀ (H' : Hp) (L : Addr) (us : List V) (ws : List Str), ws.Perm (lib.map (·.1)) → PyProof.Rows.sortedS ws = true → Same H H' → H L = none → H' L = some (.lst us) → Paired (RgAt (fun a => H a = none ∧ a ≠ L) H') us (rings55 lib ws) → Q (.ref L) H'
theorem cut_take55 (xs : List V) (k : Nat) : cutV xs none (some (k : Int)) = xs.take k := by
  unfold cutV
  rw [HT.sIx_nat, HT.sIx_none, List.drop_zero, Nat.sub_zero]
  by_cases h : k ≤ xs.length
  · rw [Nat.min_eq_left h]
  · rw [Nat.min_eq_right (by omega), List.take_length, List.take_of_length_le (by omega)]
theorem paired_take55 {α β : Type} {R : α → β → Prop} : ∀ {xs : List α} {ys : List β}, Paired R xs ys → ∀ k, Paired R (xs.take k) (ys.take k)
  | _, _, _, 0 => .nil
  | _, _, .nil, _ + 1 => .nil
  | _, _, .cons r t, k + 1 => .cons r (paired_take55 t k)
theorem ok_LRings {f : Addr} {fd : FuncData} {k : Nat} (F : Fun K "_law_rings" "_law_rings" sLRings f fd) (B : Bl mg) (hk : 6 ≤ k)
    (gLWalked : Own P w K mg base 5 "_law_walked" ["_law_rows", "_law_ahead"] (spLWalked 3)) : FnOk P w K mg base CX0 (k + 1) f fd ["_law_modules"] spLRings := by
  refine F.ok scLRings (fun vs H Q E h => ?_) (fun cdv A outer s H vs Q E hr h => ?_)
  · obtain ⟨d, ok, kvs, lib, rfl, _⟩ := h
    rfl
  obtain ⟨d, ok, kvs, lib, rfl, hd, hl, lok, lw, q⟩ := h
  refine ⟨_, (pss_cons (ps_set (i := 1) scLRings.nd rfl (by first | exact Or.inl rfl | exact Or.inr rfl) (pe_callB (call_sortedD rfl) (by rfl) B.sorted (by decide +kernel) (pa_cons (pv 0) pa_nil)))
      (pss_cons (ps_set (i := 2) scLRings.nd rfl (by first | exact Or.inl rfl | exact Or.inr rfl) pe_dnewK)
      (pss_cons (ps_for PassesOwn.never rfl (pi_list (pv 1)) (pg_name (i := 3) scLRings.nd rfl (by first | exact Or.inl rfl | exact Or.inr rfl)) (pss_one (ps_for PassesOwn.never rfl (pi_list (pe_own gLWalked (hr.mono (by omega)) (by rfl) (pa_cons (pe_dget (hu_of hr) (pv 0) (pv 3) (fun _ _ => rfl)) (pa_cons (pe_tup pa_nil) pa_nil)))) (pg_tup (by rfl) (pgs_cons (pg_name (i := 4) scLRings.nd rfl (by first | exact Or.inl rfl | exact Or.inr rfl)) (pgs_cons (pg_name (i := 5) scLRings.nd rfl (by first | exact Or.inl rfl | exact Or.inr rfl)) pgs_nil))) (pss_one (ps_if (pt_cmpR op_in_seq (pe_ix ix_tup (pv 5) pe_int (fun _ _ => rfl)) (pe_tup (pa_cons pe_str (pa_cons pe_str pa_nil))) (by rfl)) (pss_one (ps_asg pe_bl (pg_sub (pv 2) (pe_tup (pa_cons (pv 3) (pa_cons (pe_ix ix_tup (pv 5) pe_int (fun _ _ => rfl)) pa_nil))) (set_N hr.units)))) pss_nil)))))
      (pss_cons (ps_for PassesOwn.never rfl (pi_list (pv 1)) (pg_name (i := 6) scLRings.nd rfl (by first | exact Or.inl rfl | exact Or.inr rfl)) (pss_one (ps_for PassesOwn.never rfl (pi_list (pv 1)) (pg_name (i := 7) scLRings.nd rfl (by first | exact Or.inl rfl | exact Or.inr rfl)) (pss_one (ps_for PassesOwn.never rfl (pi_list (pv 1)) (pg_name (i := 8) scLRings.nd rfl (by first | exact Or.inl rfl | exact Or.inr rfl)) (pss_one (ps_if (PW.pt (pw_and (pt_cmpR (op_inKd hr.units) (pe_tup (pa_cons (pv 7) (pa_cons (pv 6) pa_nil))) (pv 2) (by rfl)) (pw_and1 (pt_cmpR (op_inKd hr.units) (pe_tup (pa_cons (pv 6) (pa_cons (pv 8) pa_nil))) (pv 2) (by rfl))))) (pss_one (ps_asg pe_bl (pg_sub (pv 2) (pe_tup (pa_cons (pv 7) (pa_cons (pv 8) pa_nil))) (set_N hr.units)))) pss_nil)))))))
      (pss_cons (ps_set (i := 9) scLRings.nd rfl (by first | exact Or.inl rfl | exact Or.inr rfl) (pe_lc (own := [("_law_one", 7)]) (g := (gName 7)) (tt := tYes) (by rfl) scLRings.nd (pi_list (pv 1)) (blkOk_by (own := [("_law_one", 7)]) (N := ["_law_modules", "_law_words", "_law_ways", "_law_word", "_law_path", "_law_row", "_law_middle", "_law_one", "_law_other", "_law_found", "_law_nth", "_law_ring"]) (sc := defScope sLRings) (by decide +kernel)) (fun _ _ _ _ _ => (pg_name (i := 7) scLRings.nd rfl (by first | exact Or.inl rfl | exact Or.inr rfl))) (fun _ _ _ _ _ => pts_nil) (fun _ _ _ _ _ => (pe_lc (own := [("_law_other", 8)]) (g := (gName 8)) (by rfl) scLRings.nd (pi_listK (K := K) (pv 1) rfl) (blkOk_by (own := [("_law_other", 8)]) (by rfl)) (fun _ _ _ _ _ => (pg_name (i := 8) scLRings.nd rfl (by first | exact Or.inl rfl | exact Or.inr rfl))) (fun _ _ _ _ _ => (pts_one (PW.pt (pw_and (pt_cmpR (opPW (P := P) (w := w) rInKd (op_inKd (by exact hr.units)) rfl rfl) (pe_tup (pa_cons (pv 7) (pa_cons (pv 8) pa_nil))) (pv 2) (by rfl)) (pw_and1 (pt_cmpR (opPW (P := P) (w := w) rInKd (op_inKd (by exact hr.units)) rfl rfl) (pe_tup (pa_cons (pv 8) (pa_cons (pv 7) pa_nil))) (pv 2) (by rfl))))))) (fun _ _ _ _ _ => (pv 8))))))
      (pss_one (ps_ret (pe_callB (cr_sortedDD hr.units) (by rfl) B.sorted (by decide +kernel) (pa_cons (pe_lc (own := [("_law_nth", 10), ("_law_ring", 11)]) (g := (gTup _ 2 (gCons (gName 10) (gCons (gName 11) gNil)))) (by rfl) scLRings.nd (pi_enumQ (by rfl) B.enumerate (pa_cons (pv 9) pa_nil)) (blkOk_by (own := [("_law_nth", 10), ("_law_ring", 11)]) (N := ["_law_modules", "_law_words", "_law_ways", "_law_word", "_law_path", "_law_row", "_law_middle", "_law_one", "_law_other", "_law_found", "_law_nth", "_law_ring"]) (sc := defScope sLRings) (by decide +kernel)) (fun _ _ _ _ _ => (pg_tup (by rfl) (pgs_cons (pg_name (i := 10) scLRings.nd rfl (by first | exact Or.inl rfl | exact Or.inr rfl)) (pgs_cons (pg_name (i := 11) scLRings.nd rfl (by first | exact Or.inl rfl | exact Or.inr rfl)) pgs_nil)))) (fun _ _ _ _ _ => (pts_one (PW.pt (pw_and (pt_cmpR (opK (K := K) rNeD (op_neD hr.units) rfl) (pv 11) (pe_lst pa_nil) (nomark _)) (pw_and1 (pt_cmpR (opK (K := K) rNinL (op_ninL (hu65x hr)) rfl) (pv 11) (pe_slice (slK (K := K) rSlL sl_list rfl) (pv 9) po_none (po_some (pv 10))) (by rfl))))))) (fun _ _ _ _ _ => (pv 11))) pa_nil))))))))), ?_⟩
  refine ⟨_, rfl, d, kvs, lib.map (·.1), rfl, .inl hd, libAt_keys hl, (by have := lok.few; rw [List.length_map]; omega), fun ws p perm srt np => ?_⟩
  have s1 : Same H (upd H p (.lst (ws.map V.str))) := Same.new np
  have hp : (upd H p (.lst (ws.map V.str))) p = some (.lst (ws.map V.str)) := upd_same
  generalize upd H p _ = H1 at *
  refine fun D nD => ?_
  have s2 : Same H1 (upd H1 D (.dK [])) := Same.new nD
  have hD : (upd H1 D (.dK [])) D = some (.dK []) := upd_same
  generalize upd H1 D _ = H2 at *
  have pD : p ≠ D := fun z => by rw [z, nD] at hp; cases hp
  have dD : d ≠ D := fun z => by have := s1 _ _ hd; rw [z, nD] at this; cases this
  have wn : ∀ {z : Str}, z ∈ ws → z ∈ nw55 := fun {z} hz => by
    obtain ⟨m, hm, rfl⟩ := List.mem_map.mp (perm.mem_iff.mp hz)
    exact (lw m hm).1
  refine ⟨_, rfl, p, rfl, ⟨_, SqL.of (s2 _ _ hp)⟩, ?_⟩
  refine for_it (walk_list (xs := ws.map V.str)) (fun i σ H' => (∃ v3 v4 v5 v6 v7 v8 v9 v10 v11, σ = [some (.ref d), some (.ref p), some (.ref D), v3, v4, v5, v6, v7, v8, v9, v10, v11]) ∧ Fr (· ≠ D) H1 H' ∧ WyAt P w H' D (((ws.take i).flatMap fun a => (nm55 lib a).map fun b => (a, b)).foldl putP []))
    ⟨⟨_, _, _, _, _, _, _, _, _, rfl⟩, Fr.same s2, WyAt.nil hD⟩ (fun i σ H' _ ⟨_, fr, _⟩ => SqL.of (fr _ _ pD hp)) ?_ ?_
  · rintro i y σ H3 H4 hi ⟨⟨v3, v4, v5, v6, v7, v8, v9, v10, v11, rfl⟩, f3, hW⟩ ⟨rfl, hy⟩
    rw [List.getElem?_map] at hy
    cases em : ws[i]? with
    | none => rw [em] at hy; cases hy
    | some m =>
    rw [em] at hy
    cases Option.some.inj hy
    have hm := perm.mem_iff.mp (List.mem_of_getElem? em)
    obtain ⟨q0, hq0, eq0⟩ := List.mem_map.mp hm
    obtain ⟨m', rs⟩ := q0
    cases eq0
    have hl4 : LibAt (fun x => ok x ∧ H1 x ≠ none) mixK H4 kvs lib := hl.to fun x kd xs k e => ⟨⟨k, by rw [s1 _ _ e]; exact fun z => nomatch z⟩, f3 _ _ (fun z => by have := s1 _ _ e; rw [z, nD] at this; cases this) (s1 _ _ e)⟩
    obtain ⟨v, hv, hrs⟩ := libAt_val hl4 lok.nd hq0
    have hd4 := f3 _ _ dD (s1 _ _ hd)
    have dg : DGet H4 d (.str m') (some v) := by rw [← hv]; exact DGet.k (k := Sum.inr m') hd4
    refine ⟨_, rfl, _, rfl, d, _, rfl, dg, Nat.zero_le _, fun e0 ne0 => ?_⟩
    have s5 : Same H4 (upd H4 e0 (.tup [])) := Same.new ne0
    have he0 : (upd H4 e0 (.tup [])) e0 = some (.tup []) := upd_same
    generalize upd H4 e0 _ = H5 at *
    refine ⟨v, .ref e0, _, false, rs, [], rfl, hrs.to (Keep.fr (Fr.same s5) fun _ k => k), lok.len _ hq0, lok.rows _ hq0, Nat.le_refl _, ⟨e0, rfl, he0⟩, by simp, fun H6 l zs s6 nl hl6 hz => ?_⟩
    have f6 : Fr (· ≠ D) H1 H6 := f3.trans (Fr.same (Same.trans s5 s6))
    have lD : l ≠ D := fun z => by
      obtain ⟨xs, k, _⟩ := (hW.same s5).at_
      obtain ⟨o, e, _⟩ := k.ntup
      rw [z, e] at nl; cases nl
    refine ⟨l, rfl, ⟨_, SqL.of hl6⟩, ?_⟩
    have hW6 := hW.same (Same.trans s5 s6)
    have enm : nm55 lib m' = nmL 3 rs := nm55_of lok.nd hq0
    have ewk := nm_walk (lok.rows _ hq0) ([] : List Int)
    refine for_it (walk_list (xs := zs)) (fun j σ H' => (∃ v4 v5 v6 v7 v8 v9 v10 v11, σ = [some (.ref d), some (.ref p), some (.ref D), some (.str m'), v4, v5, v6, v7, v8, v9, v10, v11]) ∧ Fr (· ≠ D) H6 H' ∧
        WyAt P w H' D (((((walkL 3 [] rs).take j).flatMap fun q => own1 q.2).map fun b => (m', b)).foldl putP (((ws.take i).flatMap fun a => (nm55 lib a).map fun b => (a, b)).foldl putP [])))
      ⟨⟨_, _, _, _, _, _, _, _, rfl⟩, Fr.refl, hW6⟩ (fun j σ H' _ ⟨_, fr, _⟩ => SqL.of (fr _ _ lD hl6)) ?_ ?_
    · rintro j y σ H7 H8 hj ⟨⟨w4, w5, w6, w7, w8, w9, w10, w11, rfl⟩, f7, hW7⟩ ⟨rfl, hy⟩
      obtain ⟨⟨pa, r⟩, hqr, T, pv, rv, rfl, hT, hpa, hra⟩ := paired_get hz hy
      have hqm := List.mem_of_getElem? hqr
      obtain ⟨wi', rok⟩ := walk_row55 (lok.rows _ hq0) hqm
      have kp : ∀ {x kd xs}, H6 x = some (mkO kd xs) → H8 x = some (mkO kd xs) := fun e => f7 _ _ (hW6.ne e) e
      have hT7 := kp (kd := false) hT
      have hra7 : RowAt _ mixK H8 3 rv r := hra.to (ok' := fun _ => True) fun x kd xs _ e => ⟨trivial, kp e⟩
      obtain ⟨ra, fs, rfl, _, hrt, lfs, himp, _, _⟩ := row_vals3 hra7 rok
      refine ⟨T, _, rfl, SqT.of hT7, rfl, _, _, rfl, _, _, rfl, rfl, ?_⟩
      refine ⟨_, rfl, ra, _, 0, _, rfl, rfl, SqT.of hrt, atI_nat (j := 0) rfl, (by show 2 ≤ sizeLine; decide), fun t4 nt4 => ⟨t4, loadPick, rfl, .inr (SqT.of upd_same), rfl, rfl, _, rfl, ?_⟩⟩
      rw [show inV (.str (rowWord r)) loadPick = isImp r from inV_imp r]
      have s4 : Same H8 (upd H8 t4 (.tup [.str "load", .str "pick"])) := Same.new nt4
      generalize upd H8 t4 _ = G at *
      have e1 : (walkL 3 [] rs).take (j + 1) = (walkL 3 [] rs).take j ++ [(pa, r)] := by rw [List.take_add_one, hqr]; rfl
      rw [e1, List.flatMap_append, List.map_append, List.foldl_append]
      cases c : isImp r with
      | false =>
        refine iteF ⟨⟨_, _, _, _, _, _, _, _, rfl⟩, f7.trans (Fr.same s4), ?_⟩
        rw [show ([(pa, r)].flatMap fun q => own1 q.2) = [] by rw [List.flatMap_cons, List.flatMap_nil]; show own1 r ++ [] = []; unfold own1; rw [c]; rfl]
        exact hW7.same s4
      | true =>
        have eo : ([(pa, r)].flatMap fun q => own1 q.2) = [target r] := by rw [List.flatMap_cons, List.flatMap_nil]; show own1 r ++ [] = [target r]; unfold own1; rw [c]; rfl
        have tn : target r ∈ nw55 := by
          refine (lw _ hq0).2 _ ?_
          show target r ∈ nmL 3 rs
          rw [← ewk]
          refine List.mem_flatMap.mpr ⟨_, hqm, ?_⟩
          show target r ∈ own1 r
          unfold own1; rw [c, if_pos rfl]; simp
        refine iteT ⟨_, rfl, _, rfl, _, rfl, ra, _, 2, .str (target r), rfl, rfl, SqT.of (s4 _ _ hrt), atI_nat (j := 2) (himp c), (by show 2 ≤ sizeLine; decide), fun t nt => ?_⟩
        have s5 : Same G (upd G t (.tup [.str m', .str (target r)])) := Same.new nt
        have ht : (upd G t (.tup [.str m', .str (target r)])) t = some (.tup [.str m', .str (target r)]) := upd_same
        generalize upd G t _ = G2 at *
        refine (hW7.same (Same.trans s4 s5)).put (q := (m', target r)) ht ⟨wn (List.mem_of_getElem? em), tn⟩ fun G3 hW3 f9 _ => ?_
        rw [eo]
        exact ⟨⟨_, _, _, _, _, _, _, _, rfl⟩, (f7.trans (Fr.same (Same.trans s4 s5))).trans f9, hW3⟩
    · rintro σ H7 ⟨⟨w4, w5, w6, w7, w8, w9, w10, w11, rfl⟩, f7, hW7⟩
      refine ⟨⟨_, _, _, _, _, _, _, _, _, rfl⟩, f6.trans f7, ?_⟩
      have ez : zs.length = (walkL 3 [] rs).length := paired_len hz
      rw [ez, List.take_length, ewk] at hW7
      have et : ws.take (i + 1) = ws.take i ++ [m'] := by rw [List.take_add_one, em]; rfl
      rw [et, List.flatMap_append, List.foldl_append, List.flatMap_cons, List.flatMap_nil, List.append_nil, enm]
      exact hW7
  rintro σ H3 ⟨⟨v3, v4, v5, v6, v7, v8, v9, v10, v11, rfl⟩, f3, hW3⟩
  rw [List.length_map, List.take_length] at hW3
  generalize hp0 : (ws.flatMap fun a => (nm55 lib a).map fun b => (a, b)).foldl putP [] = ps0 at *
  refine ⟨_, rfl, p, rfl, ⟨_, SqL.of (f3 _ _ pD hp)⟩, ?_⟩
  refine for_it (walk_list (xs := ws.map V.str)) (fun i σ H' => (∃ v3 v4 v5 v6 v7 v8 v9 v10 v11, σ = [some (.ref d), some (.ref p), some (.ref D), v3, v4, v5, v6, v7, v8, v9, v10, v11]) ∧ Fr (· ≠ D) H1 H' ∧ WyAt P w H' D ((ws.take i).foldl (stM ws) ps0))
    ⟨⟨_, _, _, _, _, _, _, _, _, rfl⟩, f3, hW3⟩ (fun i σ H' _ ⟨_, fr, _⟩ => SqL.of (fr _ _ pD hp)) ?_ ?_
  · rintro i y σ H4 H5 hi ⟨⟨v3, v4, v5, v6, v7, v8, v9, v10, v11, rfl⟩, f5, hW5⟩ ⟨rfl, hy⟩
    rw [List.getElem?_map] at hy
    cases em : ws[i]? with
    | none => rw [em] at hy; cases hy
    | some m =>
    rw [em] at hy
    cases Option.some.inj hy
    generalize hp1 : (ws.take i).foldl (stM ws) ps0 = ps1 at *
    have nm_ := wn (List.mem_of_getElem? em)
    refine ⟨_, rfl, p, rfl, ⟨_, SqL.of (f5 _ _ pD hp)⟩, ?_⟩
    refine for_it (walk_list (xs := ws.map V.str)) (fun j σ H' => (∃ v3 v4 v5 v7 v8 v9 v10 v11, σ = [some (.ref d), some (.ref p), some (.ref D), v3, v4, v5, some (.str m), v7, v8, v9, v10, v11]) ∧ Fr (· ≠ D) H1 H' ∧ WyAt P w H' D ((ws.take j).foldl (stA ws m) ps1))
      ⟨⟨_, _, _, _, _, _, _, _, rfl⟩, f5, hW5⟩ (fun i σ H' _ ⟨_, fr, _⟩ => SqL.of (fr _ _ pD hp)) ?_ ?_
    · rintro j y σ H6 H7 hj ⟨⟨v3, v4, v5, v7, v8, v9, v10, v11, rfl⟩, f7, hW7⟩ ⟨rfl, hy⟩
      rw [List.getElem?_map] at hy
      cases ea : ws[j]? with
      | none => rw [ea] at hy; cases hy
      | some a =>
      rw [ea] at hy
      cases Option.some.inj hy
      generalize hp2 : (ws.take j).foldl (stA ws m) ps1 = ps2 at *
      have na := wn (List.mem_of_getElem? ea)
      refine ⟨_, rfl, p, rfl, ⟨_, SqL.of (f7 _ _ pD hp)⟩, ?_⟩
      refine for_it (walk_list (xs := ws.map V.str)) (fun j σ H' => (∃ v3 v4 v5 v8 v9 v10 v11, σ = [some (.ref d), some (.ref p), some (.ref D), v3, v4, v5, some (.str m), some (.str a), v8, v9, v10, v11]) ∧ Fr (· ≠ D) H1 H' ∧ WyAt P w H' D ((ws.take j).foldl (stB m a) ps2))
        ⟨⟨_, _, _, _, _, _, _, rfl⟩, f7, hW7⟩ (fun i σ H' _ ⟨_, fr, _⟩ => SqL.of (fr _ _ pD hp)) ?_ ?_
      · rintro j2 y σ H8 H9 hj2 ⟨⟨v3, v4, v5, v8, v9, v10, v11, rfl⟩, f9, hW9⟩ ⟨rfl, hy⟩
        rw [List.getElem?_map] at hy
        cases eb : ws[j2]? with
        | none => rw [eb] at hy; cases hy
        | some b =>
        rw [eb] at hy
        cases Option.some.inj hy
        have nb := wn (List.mem_of_getElem? eb)
        have et : ws.take (j2 + 1) = ws.take j2 ++ [b] := by rw [List.take_add_one, eb]; rfl
        rw [et, List.foldl_append]
        show _
        generalize hp3 : (ws.take j2).foldl (stB m a) ps2 = ps3 at *
        refine ⟨_, rfl, _, rfl, (by show 2 ≤ sizeLine; decide), fun t1 nt1 => ?_⟩
        have s1 : Same H9 (upd H9 t1 (.tup [.str a, .str m])) := Same.new nt1
        have ht1 : (upd H9 t1 (.tup [.str a, .str m])) t1 = some (.tup [.str a, .str m]) := upd_same
        generalize upd H9 t1 _ = G1 at *
        have no : ¬ ((a, m) ∈ ps3 ∧ (m, b) ∈ ps3) → [b].foldl (stB m a) ps3 = ps3 := fun c => by
          show stB m a ps3 b = ps3
          unfold stB; rw [if_neg c]
        refine ⟨_, rfl, (hW9.same s1).in_ (q := (a, m)) ht1 ⟨_, rfl, ?_⟩⟩
        by_cases c1 : (a, m) ∈ ps3
        · rw [decide_eq_true c1]
          refine iteT ⟨_, rfl, _, rfl, (by show 2 ≤ sizeLine; decide), fun t2 nt2 => ?_⟩
          have s2 : Same G1 (upd G1 t2 (.tup [.str m, .str b])) := Same.new nt2
          have ht2 : (upd G1 t2 (.tup [.str m, .str b])) t2 = some (.tup [.str m, .str b]) := upd_same
          generalize upd G1 t2 _ = G2 at *
          have s12 := Same.trans s1 s2
          refine ⟨_, rfl, (hW9.same s12).in_ (q := (m, b)) ht2 ⟨_, rfl, ?_⟩⟩
          by_cases c2 : (m, b) ∈ ps3
          · rw [decide_eq_true c2]
            refine iteT ⟨_, rfl, _, rfl, _, rfl, (by show 2 ≤ sizeLine; decide), fun t3 nt3 => ?_⟩
            have s3 : Same G2 (upd G2 t3 (.tup [.str a, .str b])) := Same.new nt3
            have ht3 : (upd G2 t3 (.tup [.str a, .str b])) t3 = some (.tup [.str a, .str b]) := upd_same
            generalize upd G2 t3 _ = G3 at *
            have s13 := Same.trans s12 s3
            refine (hW9.same s13).put (q := (a, b)) ht3 ⟨na, nb⟩ fun G4 hG4 fG4 _ => ⟨⟨_, _, _, _, _, _, _, rfl⟩, (f9.trans (Fr.same s13)).trans fG4, ?_⟩
            rw [show [b].foldl (stB m a) ps3 = putP ps3 (a, b) by show stB m a ps3 b = _; unfold stB; rw [if_pos ⟨c1, c2⟩]]
            exact hG4
          · rw [decide_eq_false c2]
            refine iteF ⟨⟨_, _, _, _, _, _, _, rfl⟩, f9.trans (Fr.same s12), ?_⟩
            rw [no fun z => c2 z.2]; exact hW9.same s12
        · rw [decide_eq_false c1]
          refine iteF (iteF ⟨⟨_, _, _, _, _, _, _, rfl⟩, f9.trans (Fr.same s1), ?_⟩)
          rw [no fun z => c1 z.1]; exact hW9.same s1
      · rintro σ H8 ⟨⟨v3, v4, v5, v8, v9, v10, v11, rfl⟩, f9, hW9⟩
        rw [List.length_map, List.take_length] at hW9
        have et : ws.take (j + 1) = ws.take j ++ [a] := by rw [List.take_add_one, ea]; rfl
        refine ⟨⟨_, _, _, _, _, _, _, _, rfl⟩, f9, ?_⟩
        rw [et, List.foldl_append, hp2]
        exact hW9
    · rintro σ H6 ⟨⟨v3, v4, v5, v7, v8, v9, v10, v11, rfl⟩, f7, hW7⟩
      rw [List.length_map, List.take_length] at hW7
      have et : ws.take (i + 1) = ws.take i ++ [m] := by rw [List.take_add_one, em]; rfl
      refine ⟨⟨_, _, _, _, _, _, _, _, _, rfl⟩, f7, ?_⟩
      rw [et, List.foldl_append, hp1]
      exact hW7
  rintro σ H4 ⟨⟨v3, v4, v5, v6, v7, v8, v9, v10, v11, rfl⟩, f4, hW4⟩
  rw [List.length_map, List.take_length] at hW4
  generalize hp1 : ws.foldl (stM ws) ps0 = ps1 at *
  have hpH4 := f4 _ _ pD hp
  have tab : ∀ a ∈ ws, ∀ b ∈ ws, (a, b) ∈ ps1 ↔ Via (nm55 lib) (lib.map (·.1)) a b := fun a ha b hb => by
    rw [← hp1]
    refine table55 (fun x => perm.mem_iff) (fun a b => ?_) a (perm.mem_iff.mp ha) b (perm.mem_iff.mp hb)
    rw [← hp0, mem_putPs]
    constructor
    · rintro (h | h)
      · cases h
      · obtain ⟨x, hx, h⟩ := List.mem_flatMap.mp h
        obtain ⟨y, hy, e⟩ := List.mem_map.mp h
        cases e
        exact ⟨perm.mem_iff.mp hx, hy⟩
    · rintro ⟨h1, h2⟩
      exact .inr (List.mem_flatMap.mpr ⟨a, perm.mem_iff.mpr h1, List.mem_map.mpr ⟨b, h2, rfl⟩⟩)
  -- the rings, for each word
  refine ⟨_, rfl, p, rfl, ⟨_, SqL.of hpH4⟩, fun R nR => ?_⟩
  have isw : ∀ z ∈ ws, isW z = true := fun z hz => by
    obtain ⟨q, hq, rfl⟩ := List.mem_map.mp (perm.mem_iff.mp hz)
    exact lok.word q hq
  have lws : ws.length ≤ 4 := by rw [perm.length_eq, List.length_map]; exact lok.few
  have nRH : H R = none := Same.free s1 (by
    cases hz : H1 R with
    | none => rfl
    | some o =>
      by_cases c : R = D
      · rw [c, nD] at hz; cases hz
      · rw [f4 _ _ c hz] at nR; cases nR)
  refine lc_it (walk_list (xs := ws.map V.str)) (fun j H' => Same H4 H' ∧ ∃ us, H' R = some (.lst us) ∧ Paired (RgAt (fun a => H4 a = none ∧ a ≠ R) H') us ((ws.take j).map (ring55 lib ws)))
    ⟨Same.new nR, [], upd_same, .nil⟩ (fun j H' _ ⟨sm, _⟩ => SqL.of (sm _ _ hpH4)) ?_ ?_
  · rintro j y H5 H6 hj ⟨s5, us, hus, prs⟩ ⟨rfl, hy⟩
    rw [List.getElem?_map] at hy
    cases em : ws[j]? with
    | none => rw [em] at hy; cases hy
    | some m =>
    rw [em] at hy
    cases Option.some.inj hy
    have hm := List.mem_of_getElem? em
    refine ⟨rfl, _, rfl, p, rfl, ⟨_, SqL.of (s5 _ _ hpH4)⟩, fun R2 nR2 => ?_⟩
    refine lc_it (walk_list (xs := ws.map V.str)) (fun j H' => Same H6 H' ∧ H' R2 = some (.lst ((ring55 lib (ws.take j) m).map V.str)))
      ⟨Same.new nR2, upd_same⟩ (fun j H' _ ⟨sm, _⟩ => SqL.of (sm _ _ (s5 _ _ hpH4))) ?_ ?_
    · rintro j2 y H7 H8 hj2 ⟨s7, hR⟩ ⟨rfl, hy⟩
      rw [List.getElem?_map] at hy
      cases eo : ws[j2]? with
      | none => rw [eo] at hy; cases hy
      | some o =>
      rw [eo] at hy
      cases Option.some.inj hy
      have ho := List.mem_of_getElem? eo
      have et : ws.take (j2 + 1) = ws.take j2 ++ [o] := by rw [List.take_add_one, eo]; rfl
      have no : ¬ (Via (nm55 lib) (lib.map (·.1)) m o ∧ Via (nm55 lib) (lib.map (·.1)) o m) → ring55 lib (ws.take (j2 + 1)) m = ring55 lib (ws.take j2) m := fun c => by rw [et, ring55_no c]
      have hW8 := hW4.same (Same.trans s5 s7)
      refine ⟨rfl, _, rfl, _, rfl, (by show 2 ≤ sizeLine; decide), fun t1 nt1 => ?_⟩
      have s8 : Same H8 (upd H8 t1 (.tup [.str m, .str o])) := Same.new nt1
      have ht1 : (upd H8 t1 (.tup [.str m, .str o])) t1 = some (.tup [.str m, .str o]) := upd_same
      generalize upd H8 t1 _ = G1 at *
      have s78 := Same.trans s7 s8
      have hR1 := s8 _ _ hR
      refine ⟨_, rfl, (hW8.same s8).in_ (q := (m, o)) ht1 ⟨_, rfl, ?_⟩⟩
      by_cases c1 : (m, o) ∈ ps1
      · rw [decide_eq_true c1]
        refine iteT ⟨_, rfl, _, rfl, (by show 2 ≤ sizeLine; decide), fun t2 nt2 => ?_⟩
        have s9 : Same G1 (upd G1 t2 (.tup [.str o, .str m])) := Same.new nt2
        have ht2 : (upd G1 t2 (.tup [.str o, .str m])) t2 = some (.tup [.str o, .str m]) := upd_same
        generalize upd G1 t2 _ = G2 at *
        have s79 := Same.trans s78 s9
        have hR2 := s9 _ _ hR1
        refine ⟨_, rfl, (hW8.same (Same.trans s8 s9)).in_ (q := (o, m)) ht2 ⟨_, rfl, ?_⟩⟩
        by_cases c2 : (o, m) ∈ ps1
        · rw [decide_eq_true c2]
          have yes : ring55 lib (ws.take (j2 + 1)) m = ring55 lib (ws.take j2) m ++ [o] := by
            rw [et, ring55_yes ⟨(tab m hm o ho).mp c1, (tab o ho m hm).mp c2⟩]
          refine iteT ⟨_, rfl, _, hR2, small ?_, Same.upN s79 nR2, ?_⟩
          · have h1 : (ring55 lib (ws.take j2) m).length ≤ (ws.take j2).length := ring55_len
            rw [List.length_take] at h1
            rw [List.length_map]; omega
          · rw [upd_same, yes, List.map_append]; rfl
        · rw [decide_eq_false c2]
          exact iteF ⟨s79, by rw [no fun z => c2 ((tab o ho m hm).mpr z.2)]; exact hR2⟩
      · rw [decide_eq_false c1]
        exact iteF (iteF ⟨s78, by rw [no fun z => c1 ((tab m hm o ho).mpr z.1)]; exact hR1⟩)
    · rintro H7 ⟨s7, hR⟩
      rw [List.length_map, List.take_length] at hR
      have et : ws.take (j + 1) = ws.take j ++ [m] := by rw [List.take_add_one, em]; rfl
      have lu := paired_len prs
      rw [List.length_map, List.length_take] at lu
      have us7 := s7 _ _ hus
      have R2R : R2 ≠ R := fun z => by rw [z, hus] at nR2; cases nR2
      refine ⟨us, us7, small (by omega), Same.upN (Same.trans s5 s7) nR, us ++ [.ref R2], upd_same, ?_⟩
      rw [et, List.map_append]
      exact paired_app ⟨R2, rfl, ⟨Same.free s5 nR2, R2R⟩, by rw [upd_ne R2R]; exact hR⟩ (paired_imp prs fun v r ⟨b, e, o, h⟩ => ⟨b, e, o, by rw [upd_ne o.2]; exact s7 _ _ h⟩)
  rintro H5 ⟨s5, us, hus, prs⟩
  rw [List.length_map, List.take_length] at prs
  have lus := paired_len prs
  rw [List.length_map] at lus
  refine ⟨_, rfl, R, true, us, rfl, sq_of (kd := true) hus, fun S nS => ?_⟩
  have rw_ : ∀ m, ∀ z ∈ ring55 lib ws m, isW z = true := fun m z hz => isw z (ring55_sub hz)
  refine lc_it (walk_enumQ) (fun j H' => Same H5 H' ∧ ∃ vs, H' S = some (.lst vs) ∧ Paired (RgAt (fun a => H4 a = none ∧ a ≠ S) H') vs (once ((ws.map (ring55 lib ws)).take j)))
    ⟨Same.new nS, [], upd_same, .nil⟩ (fun j H' _ ⟨sm, _⟩ => sq_of (kd := true) (sm _ _ hus)) ?_ ?_
  · rintro j x H6 H7 hj ⟨s7, vs, hvs, pvs⟩ ⟨T, x1, x2, rfl, nT, rfl, e1, e2⟩
    have e1' : x1 = .int (j : Nat) := (Option.some.inj e1).symm
    subst e1'
    obtain ⟨r, hr', b, rfl, hb, hbr⟩ := paired_get prs e2
    have s8 : Same H6 (upd H6 T (.tup [.int (j : Nat), .ref b])) := Same.new nT
    have hT8 : (upd H6 T (.tup [.int (j : Nat), .ref b])) T = some (.tup [.int (j : Nat), .ref b]) := upd_same
    generalize upd H6 T _ = H8 at *
    refine ⟨T, _, rfl, SqT.of hT8, rfl, _, _, rfl, _, _, rfl, rfl, rfl, ?_⟩
    have hbr8 := s8 _ _ (s7 _ _ hbr)
    have hvs8 := s8 _ _ hvs
    have pvs8 : Paired (RgAt (fun a => H4 a = none ∧ a ≠ S) H8) vs (once ((ws.map (ring55 lib ws)).take j)) := paired_imp pvs fun v r ⟨b, e, o, h⟩ => ⟨b, e, o, s8 _ _ h⟩
    have jw : j < ws.length := by omega
    have er : r = ring55 lib ws (ws[j]'jw) := by
      rw [List.getElem?_map, List.getElem?_eq_getElem jw] at hr'
      exact (Option.some.inj hr').symm
    have rws : ∀ z ∈ r, isW z = true := fun z hz => rw_ _ z (er ▸ hz)
    have et : (ws.map (ring55 lib ws)).take (j + 1) = (ws.map (ring55 lib ws)).take j ++ [r] := by rw [List.take_add_one, hr']; rfl
    have bS : b ≠ S := fun z => by rw [z] at hbr; rw [hbr] at nS; cases nS
    have sk := Same.trans s7 s8
    refine ⟨_, rfl, Nat.zero_le _, fun e ne => ?_⟩
    have s9 : Same H8 (upd H8 e (.lst [])) := Same.new ne
    have he : (upd H8 e (.lst [])) e = some (.lst []) := upd_same
    generalize upd H8 e _ = H9 at *
    have s59 := Same.trans sk s9
    refine ⟨_, _, .lst (SqL.of (s9 _ _ hbr8)) (dpAll_strs r), .lst (SqL.of he) .nil, shaped_strs rws, rfl, _, rfl, ?_⟩
    rw [eqv_nil]
    rw [et, once_law]
    have keep : ∀ {H' : Hp}, Same H8 H' → Paired (RgAt (fun a => H4 a = none ∧ a ≠ S) H') vs (once ((ws.map (ring55 lib ws)).take j)) := fun s => paired_imp pvs8 fun v r ⟨b, e, o, h⟩ => ⟨b, e, o, s _ _ h⟩
    cases hne : r.isEmpty with
    | true =>
      have e0 : r = [] := List.isEmpty_iff.mp hne
      refine iteF (iteF ⟨s59, vs, s9 _ _ hvs8, ?_⟩)
      rw [if_neg fun z => z.1 e0]
      exact keep s9
    | false =>
      have e0 : r ≠ [] := fun z => by rw [z] at hne; cases hne
      refine iteT ⟨_, rfl, _, rfl, _, rfl, _, rfl, R, us, rfl, SqL.of (s59 _ _ hus), fun p2 np2 => ?_⟩
      rw [cut_take55]
      have s10 : Same H9 (upd H9 p2 (.lst (us.take j))) := Same.new np2
      have hp2 : (upd H9 p2 (.lst (us.take j))) p2 = some (.lst (us.take j)) := upd_same
      generalize upd H9 p2 _ = H10 at *
      have s8_10 := Same.trans s9 s10
      have s5_10 := Same.trans sk s8_10
      have hvs10 := s8_10 _ _ hvs8
      have prs10 : Paired (RgAt (fun a => H4 a = none ∧ a ≠ R) H10) (us.take j) ((ws.map (ring55 lib ws)).take j) := paired_take55 (paired_imp prs fun v r ⟨b, e, o, h⟩ => ⟨b, e, o, s5_10 _ _ h⟩) j
      have all_ : ∀ r' ∈ (ws.map (ring55 lib ws)).take j, ∀ z ∈ r', isW z = true := fun r' hr'' z hz => by
        obtain ⟨m', _, rfl⟩ := List.mem_map.mp (List.mem_of_mem_take hr'')
        exact isw z (ring55_sub hz)
      refine ⟨_, _, .lst (SqL.of (s8_10 _ _ hbr8)) (dpAll_strs r), .lst (SqL.of hp2) (dpAll_rg prs10), shaped_strs rws, shaped_strsD all_, _, rfl, ?_⟩
      rw [show ((((ws.map (ring55 lib ws)).take j).map strsD).any fun z => PyData.eqv z (.list (r.map PyData.str))) = decide (r ∈ (ws.map (ring55 lib ws)).take j) from any_strsD]
      by_cases c : r ∈ (ws.map (ring55 lib ws)).take j
      · rw [decide_eq_true c]
        refine iteF ⟨s5_10, vs, hvs10, ?_⟩
        rw [if_neg fun z => z.2 c]
        exact keep s8_10
      · rw [decide_eq_false c]
        refine iteT ⟨_, rfl, vs, hvs10, small ?_, Same.upN s5_10 nS, vs ++ [.ref b], upd_same, ?_⟩
        · rw [paired_len pvs]
          have := once_len ((ws.map (ring55 lib ws)).take j)
          rw [List.length_take, List.length_map] at this
          omega
        · rw [if_pos ⟨e0, c⟩]
          exact paired_app ⟨b, rfl, ⟨hb.1, bS⟩, by rw [upd_ne bS]; exact s8_10 _ _ hbr8⟩ (paired_imp (keep s8_10) fun v r ⟨b, e, o, h⟩ => ⟨b, e, o, by rw [upd_ne o.2]; exact h⟩)
  rintro H6 ⟨s6, vs, hvs, pvs⟩
  rw [lus, List.take_of_length_le (by rw [List.length_map]; exact Nat.le_refl _)] at pvs
  have lv := paired_len pvs
  have sHL : Same H H6 := fun b o e => by
    have h1 := s1 _ _ e
    refine s6 _ _ (s5 _ _ (f4 _ _ (fun z => ?_) h1))
    rw [z, nD] at h1; cases h1
  generalize hrs : once (ws.map (ring55 lib ws)) = rs at *
  have lrs : rs.length ≤ 4 := by
    rw [← hrs]
    have := once_len (ws.map (ring55 lib ws))
    rw [List.length_map] at this
    omega
  have mem : ∀ q ∈ vs.zip rs, RgAt (fun a => H4 a = none ∧ a ≠ S) H6 q.1 q.2 := zip_rg pvs
  have e1 : (((vs.zip rs).map fun q => (q.1, strsD q.2)).map (·.1)) = vs := by
    rw [List.map_map]
    exact List.map_fst_zip (by omega)
  refine ⟨S, (vs.zip rs).map fun q => (q.1, strsD q.2), rfl, e1.symm ▸ SqL.of hvs, fun b hb => ?_, ?_, ?_, fun b hb => ?_, fun m nm => ?_⟩
  · obtain ⟨q, hq, rfl⟩ := List.mem_map.mp hb
    obtain ⟨a, e, _, h⟩ := mem q hq
    show Dp _ _ q.1 (strsD q.2)
    rw [e]
    exact .lst (SqL.of h) (dpAll_strs _)
  · rw [List.map_map]
    exact AllAlike.of (enc := fun q : V × List Str => strsD q.2) fun q q' => alike_strsD
  · refine .inr fun d hd => ?_
    rw [List.map_map] at hd
    obtain ⟨q, _, rfl⟩ := List.mem_map.mp hd
    exact ⟨(fun z => nomatch z), fun xs z => nomatch z⟩
  · obtain ⟨q, _, rfl⟩ := List.mem_map.mp hb
    show (strsD q.2).depth ≤ 60
    unfold strsD
    rw [PyData.depth, depth_strs]; decide
  · have m1 : ((vs.zip rs).mergeSort (dataLe false fun q : V × List Str => strsD q.2)).map (fun q => (q.1, strsD q.2)) = ((vs.zip rs).map fun q => (q.1, strsD q.2)).mergeSort (dataLe false fun b : V × PyData => b.2) := List.map_mergeSort fun _ _ _ _ => rfl
    have m2 : ((vs.zip rs).mergeSort (dataLe false fun q : V × List Str => strsD q.2)).map (·.2) = rs.mergeSort (dataLe false strsD) := (List.map_mergeSort (r := dataLe false fun q : V × List Str => strsD q.2) (s := dataLe false strsD) (f := fun q : V × List Str => q.2) (l := vs.zip rs) fun _ _ _ _ => rfl).trans (by rw [List.map_snd_zip (by omega)])
    have e3 : (((vs.zip rs).mergeSort (dataLe false fun q : V × List Str => strsD q.2)).map (fun q => (q.1, strsD q.2))).map (·.1) = ((vs.zip rs).mergeSort (dataLe false fun q : V × List Str => strsD q.2)).map (·.1) := by rw [List.map_map]; rfl
    have s7 : Same H6 (upd H6 m (.lst (((vs.zip rs).mergeSort (dataLe false fun q : V × List Str => strsD q.2)).map (·.1)))) := Same.new nm
    rw [← m1, e3]
    have nH4 : ∀ {a : Addr}, H4 a = none → a ≠ D → H a = none := fun {a} h ne => by
      cases hz : H a with
      | none => rfl
      | some o => rw [f4 _ _ ne (s1 _ _ hz)] at h; cases h
    have hD4 : H4 D ≠ none := fun z => by
      obtain ⟨xs, k, _⟩ := hW4.at_
      obtain ⟨o, e, _⟩ := k.ntup
      rw [z] at e; cases e
    refine q _ m _ ws perm srt (Same.trans sHL s7) (Same.free sHL nm) upd_same ?_
    unfold rings55
    rw [hrs, ← m2]
    exact paired_fs fun q hq => by
      obtain ⟨a, e, o, h⟩ := mem q ((List.mergeSort_perm _ _).mem_iff.mp hq)
      exact ⟨a, e, ⟨nH4 o.1 fun z => hD4 (z ▸ o.1), fun z => by rw [z, nm] at h; cases h⟩, s7 _ _ h⟩
end
end Ft
set_option Elab.async false
set_option linter.all false
set_option maxRecDepth 100000
set_option maxHeartbeats 4000000
namespace Ft
open PySem L2
abbrev sLDraw : Stmt := topS 35
theorem scLDraw : FnScope ["_law_source_here", "_law_many", "_law_digit", "_law_seed"] ["_law_source_here", "_law_many"] (defScope sLDraw) := ⟨rfl, rfl, rfl, by decide +kernel, rfl, by decide +kernel, by decide +kernel⟩
def spLDraw : Sp := fun vs H Q _ => ∃ (a : Addr) (m n : Int), vs = [.ref a, .int m] ∧ Src H a n ∧ n < 2 ^ 40 ∧ 0 < m ∧ m < 2 ^ 60 ∧
  ∀ H' k, Fr (· ≠ a) H H' → Src H' a (n + 1) → 0 ≤ k → k < m → Q (.int k) H'
section
variable {P : Program} {w : World} {K : PySem.W.Frag} {mg : Str → Option Value} {base : Heap}
theorem ok_LDraw {f : Addr} {fd : FuncData} {k : Nat} (F : Fun K "_law_draw" "_law_draw" sLDraw f fd) (B : Bl mg) : FnOk P w K mg base CX0 (k + 1) f fd ["_law_source_here", "_law_many"] spLDraw := by
  refine F.ok scLDraw (fun vs H Q E h => ?_) (fun cdv A outer s H vs Q E hr h => ?_)
  · obtain ⟨a, m, n, rfl, _⟩ := h
    rfl
  obtain ⟨a, m, n, rfl, ⟨d, sd, ha, hs0, hs1, hn0⟩, hn1, hm0, hm1, q⟩ := h
  refine ⟨_, (pss_cons (ps_asg (pe_op op_add (pe_ix ix_list (pv 0) pe_int (fun _ _ => rfl)) pe_int) (pg_sub (pv 0) pe_int set_list))
      (pss_cons (ps_if (pt_cmpR op_gt (pe_ix ix_list (pv 0) pe_int (fun _ _ => rfl)) pe_int (nomark _)) (pss_cons (ps_set (i := 2) scLDraw.nd rfl (by first | exact Or.inl rfl | exact Or.inr rfl) (pe_op op_mod (pe_callTy call_int1 (by rfl) B.int (by decide +kernel) (pa_cons (pe_ix ix_list (pv 0) pe_int (fun _ _ => rfl)) pa_nil)) (pv 1)))
      (pss_cons (ps_asg (pe_op op_fdivW (pe_ix ix_list (pv 0) pe_int (fun _ _ => rfl)) (pv 1)) (pg_sub (pv 0) pe_int set_list))
      (pss_one (ps_ret (pv 2))))) pss_nil)
      (pss_cons (ps_set (i := 3) scLDraw.nd rfl (by first | exact Or.inl rfl | exact Or.inr rfl) (pe_op op_mod (pe_op op_pow (pe_callTy call_int1 (by rfl) B.int (by decide +kernel) (pa_cons (pe_op op_add (pe_ix ix_list (pv 0) pe_int (fun _ _ => rfl)) (pe_op op_mul pe_int (pe_ix ix_list (pv 0) pe_int (fun _ _ => rfl)))) pa_nil)) pe_int) pe_int))
      (pss_one (ps_ret (pe_op op_mod (pe_op op_fdivW (pe_op op_mod (pe_op op_mul (pe_op op_add (pv 3) (pe_ix ix_list (pv 0) pe_int (fun _ _ => rfl))) pe_int) pe_int) pe_int) (pv 1))))))), ?_⟩
  have a0 : ∀ x y z : Int, atI ([.int x, .int y, .int z] : List V) 0 = some (.int x) := fun _ _ _ => rfl
  have a1 : ∀ x y z : Int, atI ([.int x, .int y, .int z] : List V) 1 = some (.int y) := fun _ _ _ => rfl
  have a2 : ∀ x y z : Int, atI ([.int x, .int y, .int z] : List V) 2 = some (.int z) := fun _ _ _ => rfl
  -- the count
  refine ⟨_, rfl, a, _, 2, _, rfl, rfl, SqL.of ha, a2 _ _ _, n, 1, rfl, rfl, _, rfl, a, _, 2, 2, rfl, rfl, ha, rfl, ?_⟩
  have hb : (upd H a (.lst [.int d, .int sd, .int (n + 1)])) a = some (.lst [.int d, .int sd, .int (n + 1)]) := upd_same
  have fb : Fr (· ≠ a) H (upd H a (.lst [.int d, .int sd, .int (n + 1)])) := Fr.put (fun z => z rfl)
  show tSeq _ _ _ _ (upd H a (.lst [.int d, .int sd, .int (n + 1)]))
  -- the digits
  refine ⟨_, rfl, a, _, 0, _, rfl, rfl, SqL.of hb, a0 _ _ _, d, 0, rfl, rfl, _, rfl, ite2 (fun c => ?_) (fun c => ?_)⟩
  · have c' : (0 : Int) < d := of_decide_eq_true c
    refine ⟨_, rfl, a, _, 0, _, rfl, rfl, SqL.of hb, a0 _ _ _, .inl ⟨d, rfl, _, rfl, d, m, rfl, rfl, hm0, ?_⟩⟩
    refine ⟨_, rfl, a, _, 0, _, rfl, rfl, SqL.of hb, a0 _ _ _, _, rfl, d, m, rfl, rfl, wide_div (b := 60) hm0 (by omega) (by decide) (by decide), _, rfl, a, _, 0, 0, rfl, rfl, hb, rfl, ?_⟩
    refine ⟨_, rfl, q _ _ (fb.trans (Fr.put (fun z => z rfl))) ⟨d / m, sd, upd_same, hs0, hs1, by omega⟩ (Int.emod_nonneg _ (by omega)) (Int.emod_lt_of_pos _ hm0)⟩
  · refine ⟨_, rfl, a, _, 1, _, rfl, rfl, SqL.of hb, a1 _ _ _, _, rfl, a, _, 2, _, rfl, rfl, SqL.of hb, a2 _ _ _, 7919, n + 1, rfl, rfl, .inl ⟨by decide, by decide⟩, sd, _, rfl, rfl, .inl ⟨_, rfl, ?_⟩⟩
    refine ⟨_, 5, rfl, rfl, ⟨by decide, by decide, by omega⟩, _, 2147483647, rfl, rfl, (by decide : (0 : Int) < 2147483647), ?_⟩
    have z0 : 0 ≤ (sd + 7919 * (n + 1)) ^ (5 : Int).toNat % 2147483647 := Int.emod_nonneg _ (by decide)
    have z1 : (sd + 7919 * (n + 1)) ^ (5 : Int).toNat % 2147483647 < 2147483647 := Int.emod_lt_of_pos _ (by decide)
    refine ⟨_, rfl, _, rfl, a, _, 2, _, rfl, rfl, SqL.of hb, a2 _ _ _, _, n + 1, rfl, rfl, _, 40692, rfl, rfl, .inl ⟨by omega, by omega⟩, _, 2147483629, rfl, rfl, (by decide : (0 : Int) < 2147483629), _, 16, rfl, rfl, wide_div (b := 5) (by decide) (by decide) (by decide) (by decide), _, rfl, _, m, rfl, rfl, hm0, ?_⟩
    exact q _ _ fb ⟨d, sd, hb, hs0, hs1, by omega⟩ (Int.emod_nonneg _ (by omega)) (Int.emod_lt_of_pos _ hm0)
end
end Ft
set_option Elab.async false
set_option linter.all false
set_option maxRecDepth 100000
set_option maxHeartbeats 4000000
namespace Ft
open PySem L2
section
variable {P : Program} {w : World} {K : PySem.W.Frag} {mg : Str → Option Value} {base : Heap}
abbrev sLSource : Stmt := topS 34
theorem scLSource : FnScope ["_law_script", "_law_k", "_law_cell", "_law_deep"] ["_law_script", "_law_k"] (defScope sLSource) := ⟨rfl, rfl, rfl, by decide +kernel, rfl, by decide +kernel, by decide +kernel⟩
def spLSource (K : PySem.W.Frag) : Sp := fun vs H Q _ => ∃ (a : Addr) (ns : List Int) (k : Int), vs = [.ref a, .int k] ∧ SqL K H a (ns.map V.int) ∧ 0 ≤ k ∧ k ≤ 1000 ∧
  ∀ H' p, Same H H' → H p = none → Src H' p 0 → Q (.ref p) H'
theorem ok_LSource {f : Addr} {fd : FuncData} {k : Nat} (F : Fun K "_law_source" "_law_source" sLSource f fd) (B : Bl mg) : FnOk P w K mg base CX0 (k + 1) f fd ["_law_script", "_law_k"] (spLSource K) := by
  refine F.ok scLSource (fun vs H Q E h => ?_) (fun cdv A outer s H vs Q E hr h => ?_)
  · obtain ⟨a, ns, k, rfl, _⟩ := h
    rfl
  obtain ⟨a, ns, k, rfl, hS, hk0, hk1, q⟩ := h
  refine ⟨_, (pss_cons (ps_set (i := 2) scLSource.nd rfl (by first | exact Or.inl rfl | exact Or.inr rfl) pe_int)
      (pss_cons (ps_set (i := 3) scLSource.nd rfl (by first | exact Or.inl rfl | exact Or.inr rfl) pe_int)
      (pss_cut (ps_if (pt_cmpR op_gt (pe_callB call_len_seq (by rfl) B.len (by decide +kernel) (pa_cons (pv 0) pa_nil)) pe_int (nomark _)) (pss_one (ps_set (i := 2) scLSource.nd rfl (by first | exact Or.inl rfl | exact Or.inr rfl) (pe_ix ix_list (pv 0) (pe_op op_mod (pe_callTy call_int1 (by rfl) B.int (by decide +kernel) (pa_cons (pv 1) pa_nil)) (pe_callB call_len_seq (by rfl) B.len (by decide +kernel) (pa_cons (pv 0) pa_nil))) (fun _ _ => rfl)))) pss_nil)
      (pss_cut (ps_if (PW.pt (pw_and (pt_cmpR op_lt (pv 1) (pe_callB call_len_seq (by rfl) B.len (by decide +kernel) (pa_cons (pv 0) pa_nil)) (nomark _)) (pw_and1 (pt_cmpR op_ge (pv 2) (pe_op op_pow pe_int pe_int) (nomark _))))) (pss_one (ps_set (i := 3) scLSource.nd rfl (by first | exact Or.inl rfl | exact Or.inr rfl) (pv 2))) pss_nil)
      (pss_one (ps_ret (pe_lst (pa_cons (pv 3) (pa_cons (pe_op op_add (pe_op op_add (pe_op op_mod (pe_callTy call_int1 (by rfl) B.int (by decide +kernel) (pa_cons (pv 2) pa_nil)) pe_int) (pe_op op_mul pe_int (pv 1))) pe_int) (pa_cons pe_int pa_nil)))))))))), ?_⟩
  have hl : (ns.map V.int).length = ns.length := List.length_map _
  -- the end, for any cell and any deep
  have fin : ∀ (c d : Int), (∀ p, H p = none → Q (.ref p) (upd H p (.lst [.int d, .int (c % 2147483647 + 7919000 * k + 104729), .int 0]))) := fun c d p np => by
    have z0 : 0 ≤ c % 2147483647 := Int.emod_nonneg _ (by decide)
    have z1 : c % 2147483647 < 2147483647 := Int.emod_lt_of_pos _ (by decide)
    exact q _ p (Same.new np) np ⟨d, _, upd_same, by omega, by omega, by decide⟩
  refine ⟨fun σ H' => H = H' ∧ ∃ c : Int, σ = [some (.ref a), some (.int k), some (.int c), some (.int 0)], ?_, ?_⟩
  · refine ⟨_, rfl, a, _, rfl, .inl hS, _, 0, rfl, rfl, _, rfl, ite2 (fun c => ?_) (fun c => ?_)⟩
    · have c' : (0 : Int) < ((ns.map V.int).length : Nat) := of_decide_eq_true c
      rw [hl] at c'
      have m0 : 0 ≤ k % (ns.length : Int) := Int.emod_nonneg _ (by omega)
      have m1 : k % (ns.length : Int) < (ns.length : Int) := Int.emod_lt_of_pos _ c'
      obtain ⟨x, hx, hm⟩ := getD_mem (xs := ns.map V.int) m0 (by rw [hl]; exact m1)
      obtain ⟨z, _, rfl⟩ := List.mem_map.mp hm
      refine ⟨_, rfl, _, rfl, .inl ⟨k, rfl, _, rfl, a, _, rfl, .inl hS, k, _, rfl, rfl, (by rw [hl]; exact c'), a, _, _, _, rfl, rfl, hS, (by rw [hl]; exact hx), rfl, z, rfl⟩⟩
    · exact ⟨rfl, 0, rfl⟩
  · rintro σ H' ⟨rfl, c, rfl⟩
    refine ⟨fun σ H' => H = H' ∧ ∃ d : Int, σ = [some (.ref a), some (.int k), some (.int c), some (.int d)], ?_, ?_⟩
    · refine ⟨_, rfl, _, rfl, a, _, rfl, .inl hS, k, _, rfl, rfl, _, rfl, ite2 (fun e => ?_) (fun e => ?_)⟩
      · refine ⟨_, rfl, 10, 18, rfl, rfl, ⟨by decide, by decide, by decide⟩, c, _, rfl, rfl, _, rfl, ite2 (fun e => ?_) (fun e => ?_)⟩
        · exact ⟨_, rfl, rfl, c, rfl⟩
        · exact ⟨rfl, 0, rfl⟩
      · exact iteF ⟨rfl, 0, rfl⟩
    · rintro σ H' ⟨rfl, d, rfl⟩
      refine ⟨_, rfl, _, rfl, .inl ⟨c, rfl, c, 2147483647, rfl, rfl, (by decide : (0 : Int) < 2147483647), _, rfl, 7919000, k, rfl, rfl, .inl ⟨by decide, by decide⟩, _, _, rfl, rfl, _, _, rfl, rfl, (by show 3 ≤ sizeLine; decide), ?_⟩⟩
      exact fin c d
abbrev sLPick : Stmt := topS 36
theorem scLPick : FnScope ["_law_source_here", "_law_some"] ["_law_source_here", "_law_some"] (defScope sLPick) := ⟨rfl, rfl, rfl, by decide +kernel, rfl, by decide +kernel, by decide +kernel⟩
def spLPick : Sp := fun vs H Q _ => ∃ (a b : Addr) (xs : List V) (n : Int), vs = [.ref a, .ref b] ∧ Src H a n ∧ n < 2 ^ 40 ∧ b ≠ a ∧ H b = some (.lst xs) ∧ xs ≠ [] ∧ xs.length < 1000000 ∧
  ∀ H' x, Fr (· ≠ a) H H' → Src H' a (n + 1) → x ∈ xs → Q x H'
theorem ok_LPick {f : Addr} {fd : FuncData} {k : Nat} (F : Fun K "_law_pick" "_law_pick" sLPick f fd) (B : Bl mg) (gLDraw : Own P w K mg base k "_law_draw" ["_law_source_here", "_law_many"] spLDraw) : FnOk P w K mg base CX0 (k + 1) f fd ["_law_source_here", "_law_some"] spLPick := by
  refine F.ok scLPick (fun vs H Q E h => ?_) (fun cdv A outer s H vs Q E hr h => ?_)
  · obtain ⟨a, b, xs, n, rfl, _⟩ := h
    rfl
  obtain ⟨a, b, xs, n, rfl, hs, hn, nb, hb, hx, hl, q⟩ := h
  refine ⟨_, (pss_one (ps_ret (pe_ix ix_list (pv 1) (pe_own gLDraw (hr.mono (by omega)) (by rfl) (pa_cons (pv 0) (pa_cons (pe_callB call_len_seq (by rfl) B.len (by decide +kernel) (pa_cons (pv 1) pa_nil)) pa_nil))) (fun _ _ => rfl)))), ?_⟩
  have h0 : 0 < xs.length := List.length_pos_iff.mpr hx
  refine ⟨_, rfl, _, rfl, _, rfl, b, _, rfl, .inl (SqL.of hb), a, _, n, rfl, hs, hn, by omega, by omega, fun H' j fr sr j0 j1 => ?_⟩
  obtain ⟨x, e, m⟩ := getD_mem j0 j1
  exact ⟨b, xs, _, x, rfl, rfl, SqL.of (fr _ _ nb hb), e, q _ _ fr sr m⟩
end
end Ft
set_option Elab.async false
set_option linter.all false
set_option maxRecDepth 100000
set_option maxHeartbeats 1000000
set_option pp.maxSteps 2500
set_option pp.deepTerms.threshold 8
namespace Ft
open PySem L2 PySem.W
def NmIn (d : Nat) (r : Row) : Prop := ∀ o ∈ nmR d r, o ∈ nw55
theorem NmIn.up {d : Nat} {r : Row} (h : isImp r = false) (b : ∀ bl ∈ blocks r, ∀ r' ∈ bl, NmIn d r') : NmIn (d + 1) r := fun o ho => by
  rw [show nmR (d + 1) r = own1 r ++ (blocks r).flatMap fun b => b.flatMap (nmR d) from rfl] at ho
  unfold own1 at ho
  rw [h, if_neg Bool.false_ne_true, List.nil_append] at ho
  obtain ⟨bl, hbl, ho⟩ := List.mem_flatMap.mp ho
  obtain ⟨r', hr', ho⟩ := List.mem_flatMap.mp ho
  exact b bl hbl r' hr' o ho
theorem NmIn.plain {d : Nat} {w : Str} {fs : List V} (h : ∀ o ∈ own1 (.plain w fs), o ∈ nw55) : NmIn d (.plain w fs) := fun o ho => by
  cases d with
  | zero => exact h o ho
  | succ d =>
    rw [show nmR (d + 1) (.plain w fs) = own1 (.plain w fs) ++ [] from rfl, List.append_nil] at ho
    exact h o ho
/-- a row is laid, new since H0 -/
def Rw55 (H0 H : Hp) (d : Nat) (wi : Bool) (v : V) : Prop := ∃ r, RowAt (fun x => H0 x = none) tupK H d v r ∧ RowOk d wi r ∧ NmIn d r
theorem Rw55.same {H0 H H' : Hp} {d : Nat} {wi : Bool} {v : V} (h : Rw55 H0 H d wi v) (s : Same H H') : Rw55 H0 H' d wi v := by
  obtain ⟨r, h1, h2⟩ := h
  exact ⟨r, h1.to (Keep.fr (Fr.same s) fun _ k => k), h2⟩
/-- a row without blocks -/
def Pl55 (H0 H : Hp) (v : V) : Prop := ∃ w fs, At (fun x => H0 x = none) (tupK false) H v (.str w :: fs) ∧ plainOk true w fs ∧ ∀ o ∈ own1 (.plain w fs), o ∈ nw55
theorem Pl55.same {H0 H H' : Hp} {v : V} (h : Pl55 H0 H v) (s : Same H H') : Pl55 H0 H' v := by
  obtain ⟨w, fs, h1, h2⟩ := h
  exact ⟨w, fs, h1.to (Keep.fr (Fr.same s) fun _ k => k), h2⟩
theorem Pl55.fr {H0 H H' : Hp} {a : Addr} {v : V} (h : Pl55 H0 H v) (ha : H0 a ≠ none) (s : Fr (· ≠ a) H H') : Pl55 H0 H' v := by
  obtain ⟨w, fs, h1, h2⟩ := h
  exact ⟨w, fs, h1.to (Keep.fr (ok := fun x => H0 x = none) (fun b o k e => s _ _ (fun z => ha (z ▸ k)) e) fun _ k => k), h2⟩
theorem Pl55.tups {H0 H H' : Hp} {v : V} (h : Pl55 H0 H v) (t : ∀ b xs, H b = some (.tup xs) → H' b = some (.tup xs)) : Pl55 H0 H' v := by
  obtain ⟨w, fs, ⟨a, kd, e, k, m, g⟩, h2⟩ := h
  have ek : kd = false := m
  subst ek
  exact ⟨w, fs, ⟨a, false, e, k, m, t _ _ g⟩, h2⟩
theorem Pl55.row {H0 H : Hp} {v : V} (h : Pl55 H0 H v) (d : Nat) (wi : Bool) : Rw55 H0 H d wi v := by
  obtain ⟨w, fs, h1, ⟨ks, h2, h3, h4⟩, h5⟩ := h
  refine ⟨.plain w fs, ?_, ?_, .plain h5⟩
  · cases d <;> exact h1
  · cases d <;> exact ⟨ks, h2, h3, fun _ => h4 rfl⟩
theorem tgt55 {r : Row} (h : target r ∈ nw55) : ∀ o ∈ own1 r, o ∈ nw55 := fun o ho => by
  unfold own1 at ho
  split at ho
  · exact List.mem_singleton.mp ho ▸ h
  · cases ho
theorem tupT {H0 H : Hp} {t : Addr} {xs : List V} (h0 : H0 t = none) (h : H t = some (.tup xs)) (s : Bool) : At (fun x => H0 x = none) (tupK s) H (.ref t) xs := ⟨t, false, rfl, h0, rfl, h⟩
theorem pl_of55 {H0 H : Hp} {t : Addr} {w : Str} {fs : List V} (h0 : H0 t = none) (h : H t = some (.tup (.str w :: fs))) (ok : plainOk true w fs) (n : ∀ o ∈ own1 (.plain w fs), o ∈ nw55) : Pl55 H0 H (.ref t) := ⟨w, fs, tupT h0 h false, ok, n⟩
theorem make55 {H0 H : Hp} {d : Nat} {t u : Addr} {n : Str} {xs : List V} (h0 : H0 t = none) (h : H t = some (.tup [.str "make", .str n, .ref u])) (k0 : H0 u = none) (k : H u = some (.tup xs)) (hn : isW n = true) (hl : xs.length ≤ 11) (hx : ∀ x ∈ xs, Rw55 H0 H d true x) : Rw55 H0 H (d + 1) false (.ref t) := by
  have go : ∀ {l : List V}, (∀ x ∈ l, Rw55 H0 H d true x) → ∃ b, Paired (RowAt (fun x => H0 x = none) tupK H d) l b ∧ (∀ r ∈ b, RowOk d true r) ∧ ∀ r ∈ b, NmIn d r := fun {l} => by
    induction l with
    | nil => exact fun _ => ⟨[], .nil, (fun _ z => nomatch z), fun _ z => nomatch z⟩
    | cons x l ih =>
      intro hl
      obtain ⟨r, r1, r2, r3⟩ := hl x (by simp)
      obtain ⟨b, b1, b2, b3⟩ := ih fun y hy => hl y (by simp [hy])
      exact ⟨r :: b, .cons r1 b1, List.forall_mem_cons.mpr ⟨r2, b2⟩, List.forall_mem_cons.mpr ⟨r3, b3⟩⟩
  obtain ⟨b, b1, b2, b3⟩ := go hx
  refine ⟨.make n b, ⟨.ref u, xs, tupT h0 h false, tupT k0 k true, b1⟩, ⟨rfl, hn, by rw [← paired_len b1]; exact hl, b2⟩, .up imp_make fun bl hbl r hr => ?_⟩
  rw [show blocks (.make n b) = [b] from rfl, List.mem_singleton] at hbl
  exact b3 r (hbl ▸ hr)
theorem rows55 {H0 H : Hp} {d : Nat} {wi : Bool} {l : List V} (h : ∀ x ∈ l, Rw55 H0 H d wi x) : ∃ b, Paired (RowAt (fun x => H0 x = none) tupK H d) l b ∧ (∀ r ∈ b, RowOk d wi r) ∧ ∀ r ∈ b, NmIn d r := by
  induction l with
  | nil => exact ⟨[], .nil, (fun _ z => nomatch z), fun _ z => nomatch z⟩
  | cons x l ih =>
    obtain ⟨r, r1, r2, r3⟩ := h x (by simp)
    obtain ⟨b, b1, b2, b3⟩ := ih fun y hy => h y (by simp [hy])
    exact ⟨r :: b, .cons r1 b1, List.forall_mem_cons.mpr ⟨r2, b2⟩, List.forall_mem_cons.mpr ⟨r3, b3⟩⟩
theorem when55 {H0 H : Hp} {d : Nat} {wi : Bool} {t u v : Addr} {n : Str} {xs ys : List V} (h0 : H0 t = none) (h : H t = some (.tup [.str "when", .str n, .ref u, .ref v])) (k0 : H0 u = none) (k : H u = some (.tup xs)) (l0 : H0 v = none) (l : H v = some (.tup ys)) (hn : isW n = true) (hl : xs.length ≤ 11) (hl2 : ys.length ≤ 11)
    (hx : ∀ x ∈ xs, Rw55 H0 H d wi x) (hy : ∀ x ∈ ys, Rw55 H0 H d wi x) : Rw55 H0 H (d + 1) wi (.ref t) := by
  obtain ⟨b, b1, b2, b3⟩ := rows55 hx
  obtain ⟨c, c1, c2, c3⟩ := rows55 hy
  refine ⟨.when n b c, ⟨.ref u, xs, .ref v, ys, tupT h0 h false, tupT k0 k true, b1, tupT l0 l true, c1⟩, ⟨hn, by rw [← paired_len b1]; exact hl, by rw [← paired_len c1]; exact hl2, b2, c2⟩, .up imp_when fun bl hbl r hr => ?_⟩
  rw [show blocks (.when n b c) = [b, c] from rfl] at hbl
  rcases List.mem_cons.mp hbl with e | e
  · exact b3 r (e ▸ hr)
  · exact c3 r (List.mem_singleton.mp e ▸ hr)
theorem try55 {H0 H : Hp} {d : Nat} {wi : Bool} {t u v : Addr} {xs ys : List V} (h0 : H0 t = none) (h : H t = some (.tup [.str "try", .ref u, .ref v])) (k0 : H0 u = none) (k : H u = some (.tup xs)) (l0 : H0 v = none) (l : H v = some (.tup ys)) (hl : xs.length ≤ 11) (hl2 : ys.length ≤ 11)
    (hx : ∀ x ∈ xs, Rw55 H0 H d wi x) (hy : ∀ x ∈ ys, Rw55 H0 H d wi x) : Rw55 H0 H (d + 1) wi (.ref t) := by
  obtain ⟨b, b1, b2, b3⟩ := rows55 hx
  obtain ⟨c, c1, c2, c3⟩ := rows55 hy
  refine ⟨.try_ b c, ⟨.ref u, xs, .ref v, ys, tupT h0 h false, tupT k0 k true, b1, tupT l0 l true, c1⟩, ⟨by rw [← paired_len b1]; exact hl, by rw [← paired_len c1]; exact hl2, b2, c2⟩, .up imp_try fun bl hbl r hr => ?_⟩
  rw [show blocks (.try_ b c) = [b, c] from rfl] at hbl
  rcases List.mem_cons.mp hbl with e | e
  · exact b3 r (e ▸ hr)
  · exact c3 r (List.mem_singleton.mp e ▸ hr)
section
variable {P : Program} {w : World} {K : PySem.W.Frag} {mg : Str → Option Value} {base : Heap}
abbrev sLSomeImport : Stmt := topS 39
theorem scLSomeImport : FnScope ["_law_source_here", "_law_words", "_law_word", "_law_rows", "_law_row", "_law_ways"] ["_law_source_here", "_law_words"] (defScope sLSomeImport) := ⟨rfl, rfl, rfl, by decide +kernel, rfl, by decide +kernel, by decide +kernel⟩
def spSomeImport : Sp := fun vs H Q _ => ∃ (a b : Addr) (n : Int) (ws : List Str), vs = [.ref a, .ref b] ∧ Src H a n ∧ n < 2 ^ 39 ∧ b ≠ a ∧ H b = some (.lst (ws.map V.str)) ∧ ws.length ≤ 8 ∧ (∀ z ∈ ws, isW z = true ∧ z ∈ nw55) ∧
  ∀ H' v, Fr (· ≠ a) H H' → Src H' a (n + 3) → Rw55 H H' 3 false v → Q v H'
theorem ok_SomeImport {f : Addr} {fd : FuncData} {k : Nat} (F : Fun K "_law_some_import" "_law_some_import" sLSomeImport f fd) (B : Bl mg) (hk : 2 ≤ k)
    (gLPick : Own P w K mg base 2 "_law_pick" ["_law_source_here", "_law_some"] spLPick) : FnOk P w K mg base CX0 (k + 1) f fd ["_law_source_here", "_law_words"] spSomeImport := by
  refine F.ok scLSomeImport (fun vs H Q E h => ?_) (fun cdv A outer s H vs Q E hr h => ?_)
  · obtain ⟨a, b, n, ws, rfl, _⟩ := h
    rfl
  obtain ⟨a, b, n, ws, rfl, hs, hn, ba, hb, hl, hw, q⟩ := h
  refine ⟨_, (pss_cons (ps_set (i := 2) scLSomeImport.nd rfl (by first | exact Or.inl rfl | exact Or.inr rfl) (pe_own gLPick (hr.mono (by omega)) (by rfl) (pa_cons (pv 0) (pa_cons (pe_op op_cat (pv 1) (pe_lst (pa_cons pe_str pa_nil))) pa_nil))))
      (pss_cons (ps_set (i := 3) scLSomeImport.nd rfl (by first | exact Or.inl rfl | exact Or.inr rfl) (pe_lst (pa_cons (pe_tup (pa_cons pe_str (pa_cons pe_str (pa_cons (pv 2) pa_nil)))) (pa_cons (pe_tup (pa_cons pe_str (pa_cons pe_str (pa_cons (pv 2) (pa_cons pe_str pa_nil))))) (pa_cons (pe_tup (pa_cons pe_str (pa_cons pe_str (pa_cons (pv 2) pa_nil)))) (pa_cons (pe_tup (pa_cons pe_str (pa_cons pe_str (pa_cons (pv 2) pa_nil)))) pa_nil))))))
      (pss_cons (ps_set (i := 4) scLSomeImport.nd rfl (by first | exact Or.inl rfl | exact Or.inr rfl) (pe_own gLPick (hr.mono (by omega)) (by rfl) (pa_cons (pv 0) (pa_cons (pe_op op_cat (pv 3) (pe_lst (pa_cons (pe_tup (pa_cons pe_str (pa_cons pe_str (pa_cons (pv 2) (pa_cons pe_str pa_nil))))) pa_nil))) pa_nil))))
      (pss_cons (ps_set (i := 5) scLSomeImport.nd rfl (by first | exact Or.inl rfl | exact Or.inr rfl) (pe_lst (pa_cons (pv 4) (pa_cons (pv 4) (pa_cons (pe_tup (pa_cons pe_str (pa_cons pe_str (pa_cons (pe_tup (pa_cons (pv 4) pa_nil)) pa_nil)))) (pa_cons (pe_tup (pa_cons pe_str (pa_cons (pe_tup (pa_cons (pe_tup (pa_cons pe_str (pa_cons pe_int pa_nil))) pa_nil)) (pa_cons (pe_tup (pa_cons (pv 4) pa_nil)) pa_nil)))) (pa_cons (pe_tup (pa_cons pe_str (pa_cons pe_str (pa_cons (pe_tup (pa_cons (pv 4) pa_nil)) (pa_cons (pe_tup (pa_cons (pe_tup (pa_cons pe_str (pa_cons pe_str pa_nil))) pa_nil)) pa_nil))))) pa_nil)))))))
      (pss_cons (ps_expr (pe_bm PySem.F.plainAttrs_list PySem.F.slot_list_append PySem.F.type_list_append mt_append (pv 5) (pa_cons (pe_tup (pa_cons pe_str (pa_cons pe_str (pa_cons (pe_tup (pa_cons (pe_tup (pa_cons pe_str (pa_cons pe_str (pa_cons (pe_tup pa_nil) (pa_cons (pe_tup (pa_cons (pe_tup (pa_cons pe_str (pa_cons (pe_tup (pa_cons (pv 4) pa_nil)) (pa_cons (pe_tup pa_nil) pa_nil)))) pa_nil)) pa_nil))))) pa_nil)) pa_nil)))) pa_nil)))
      (pss_one (ps_ret (pe_own gLPick (hr.mono (by omega)) (by rfl) (pa_cons (pv 0) (pa_cons (pv 5) pa_nil)))))))))), ?_⟩
  have aH : H a ≠ none := by
    obtain ⟨x, y, e, _⟩ := hs
    rw [e]; exact fun z => nomatch z
  refine ⟨_, rfl, _, rfl, (by show 1 ≤ sizeLine; decide), fun l1 nl1 => ?_⟩
  generalize hE_l1 : upd H l1 _ = G1
  have s_l1 : Same H G1 := by rw [← hE_l1]; exact Same.new nl1
  have h_l1 : G1 l1 = some (.lst [.str "gone"]) := by rw [← hE_l1]; exact upd_same
  refine ⟨b, l1, ws.map V.str, [.str "gone"], rfl, rfl, s_l1 _ _ hb, h_l1, smallE (by rw [List.length_map]; simp; omega), fun l2 nl2 => ?_⟩
  generalize hE_l2 : upd G1 l2 _ = G2
  have s_l2 : Same G1 G2 := by rw [← hE_l2]; exact Same.new nl2
  have h_l2 : G2 l2 = some (.lst (ws.map V.str ++ [.str "gone"])) := by rw [← hE_l2]; exact upd_same
  have s2 := Same.trans s_l1 s_l2
  have hs1 := hs.fr (Fr.same (ok := fun _ => True) s_l1) trivial
  refine ⟨a, l2, _, n, rfl, hs.fr (Fr.same (ok := fun _ => True) s2) trivial, by omega, hs1.nn nl2, h_l2, by simp, by rw [List.length_append, List.length_map]; simp; omega, fun G3 x f3 s3 hx => ?_⟩
  have hx' : ∃ z, x = .str z ∧ isW z = true ∧ z ∈ nw55 := by
    rcases List.mem_append.mp hx with h | h
    · obtain ⟨z, hz, rfl⟩ := List.mem_map.mp h
      exact ⟨z, rfl, hw z hz⟩
    · exact ⟨"gone", List.mem_singleton.mp h, by decide +kernel, by decide +kernel⟩
  obtain ⟨z, rfl, zw, zn⟩ := hx'
  have f03 : Fr (· ≠ a) H G3 := (Fr.same s2).trans f3
  have free : ∀ {x : Addr} {G : Hp}, Fr (· ≠ a) H G → G x = none → x ≠ a → H x = none := fun {x G} f e ne => by
    cases hz : H x with
    | none => rfl
    | some o => rw [f _ _ ne hz] at e; cases e
  have sz3 : 3 ≤ sizeLine := by decide
  have sz4 : 4 ≤ sizeLine := by decide
  refine ⟨_, rfl, sz3, fun t1 nt1 => ?_⟩
  generalize hE_t1 : upd G3 t1 _ = G4
  have s_t1 : Same G3 G4 := by rw [← hE_t1]; exact Same.new nt1
  have h_t1 : G4 t1 = some (.tup [.str "load", .str "x", .str z]) := by rw [← hE_t1]; exact upd_same
  refine ⟨_, rfl, sz4, fun t2 nt2 => ?_⟩
  generalize hE_t2 : upd G4 t2 _ = G5
  have s_t2 : Same G4 G5 := by rw [← hE_t2]; exact Same.new nt2
  have h_t2 : G5 t2 = some (.tup [.str "pick", .str "y", .str z, .str "x"]) := by rw [← hE_t2]; exact upd_same
  refine ⟨_, rfl, sz3, fun t3 nt3 => ?_⟩
  generalize hE_t3 : upd G5 t3 _ = G6
  have s_t3 : Same G5 G6 := by rw [← hE_t3]; exact Same.new nt3
  have h_t3 : G6 t3 = some (.tup [.str "load", .str "y", .str z]) := by rw [← hE_t3]; exact upd_same
  refine ⟨_, rfl, sz3, fun t4 nt4 => ?_⟩
  generalize hE_t4 : upd G6 t4 _ = G7
  have s_t4 : Same G6 G7 := by rw [← hE_t4]; exact Same.new nt4
  have h_t4 : G7 t4 = some (.tup [.str "seen", .str "y", .str z]) := by rw [← hE_t4]; exact upd_same
  refine ⟨sz4, fun l3 nl3 => ?_⟩
  generalize hE_l3 : upd G7 l3 _ = G8
  have s_l3 : Same G7 G8 := by rw [← hE_l3]; exact Same.new nl3
  have h_l3 : G8 l3 = some (.lst [.ref t1, .ref t2, .ref t3, .ref t4]) := by rw [← hE_l3]; exact upd_same
  refine ⟨_, rfl, _, rfl, _, rfl, sz4, fun t5 nt5 => ?_⟩
  generalize hE_t5 : upd G8 t5 _ = G9
  have s_t5 : Same G8 G9 := by rw [← hE_t5]; exact Same.new nt5
  have h_t5 : G9 t5 = some (.tup [.str "part", .str "y", .str z, .str "x"]) := by rw [← hE_t5]; exact upd_same
  refine ⟨(by show 1 ≤ sizeLine; decide), fun l4 nl4 => ?_⟩
  generalize hE_l4 : upd G9 l4 _ = G10
  have s_l4 : Same G9 G10 := by rw [← hE_l4]; exact Same.new nl4
  have h_l4 : G10 l4 = some (.lst [.ref t5]) := by rw [← hE_l4]; exact upd_same
  have s38 := Same.trans (Same.trans (Same.trans (Same.trans s_t1 s_t2) s_t3) s_t4) s_l3
  have s3_10 := Same.trans s38 (Same.trans s_t5 s_l4)
  refine ⟨l3, l4, [.ref t1, .ref t2, .ref t3, .ref t4], [.ref t5], rfl, rfl, s_l4 _ _ (s_t5 _ _ h_l3), h_l4, (by show 5 ≤ sizeLine; decide), fun l5 nl5 => ?_⟩
  generalize hE_l5 : upd G10 l5 _ = G11
  have s_l5 : Same G10 G11 := by rw [← hE_l5]; exact Same.new nl5
  have h_l5 : G11 l5 = some (.lst ([.ref t1, .ref t2, .ref t3, .ref t4] ++ [.ref t5])) := by rw [← hE_l5]; exact upd_same
  have s3_11 := Same.trans s3_10 s_l5
  have sr11 := s3.fr (Fr.same (ok := fun _ => True) s3_11) trivial
  refine ⟨a, l5, _, n + 1, rfl, sr11, by omega, (s3.fr (Fr.same (ok := fun _ => True) s3_10) trivial).nn nl5, h_l5, by simp, (by show 5 < 1000000; decide), fun G12 x f12 s12 hx => ?_⟩
  have f0_11 : Fr (· ≠ a) H G11 := f03.trans (Fr.same s3_11)
  have f0_12 : Fr (· ≠ a) H G12 := f0_11.trans f12
  have ne : ∀ {t : Addr} {G : Hp} {xs : List V} {m : Int}, Src G a m → G t = some (.tup xs) → t ≠ a := fun sr e z => by
    obtain ⟨_, _, e2, _⟩ := sr
    rw [z, e2] at e; cases e
  have at11 : ∀ {t : Addr} {xs : List V} {G : Hp}, Same G G11 → Fr (· ≠ a) H G → G t = some (.tup xs) → H t = none → G12 t = some (.tup xs) := fun s _ e _ => f12 _ _ (ne sr11 (s _ _ e)) (s _ _ e)
  have s4_11 : Same G4 G11 := Same.trans s_t2 (Same.trans s_t3 (Same.trans s_t4 (Same.trans s_l3 (Same.trans s_t5 (Same.trans s_l4 s_l5)))))
  have s5_11 : Same G5 G11 := Same.trans s_t3 (Same.trans s_t4 (Same.trans s_l3 (Same.trans s_t5 (Same.trans s_l4 s_l5))))
  have s6_11 : Same G6 G11 := Same.trans s_t4 (Same.trans s_l3 (Same.trans s_t5 (Same.trans s_l4 s_l5)))
  have s7_11 : Same G7 G11 := Same.trans s_l3 (Same.trans s_t5 (Same.trans s_l4 s_l5))
  have s9_11 : Same G9 G11 := Same.trans s_l4 s_l5
  have fr_ : ∀ {t : Addr} {xs : List V} {G G' : Hp}, Same G3 G → G t = none → Same G' G11 → G' t = some (.tup xs) → H t = none ∧ G12 t = some (.tup xs) := fun s e s' e' => ⟨free (f03.trans (Fr.same s)) e (ne sr11 (s' _ _ e')), f12 _ _ (ne sr11 (s' _ _ e')) (s' _ _ e')⟩
  have p1 := fr_ (Same.refl _) nt1 s4_11 h_t1
  have p2 := fr_ s_t1 nt2 s5_11 h_t2
  have p3 := fr_ (Same.trans s_t1 s_t2) nt3 s6_11 h_t3
  have p4 := fr_ (Same.trans (Same.trans s_t1 s_t2) s_t3) nt4 s7_11 h_t4
  have p5 := fr_ s38 nt5 s9_11 h_t5
  have px : Pl55 H G12 x := by
    have wx : isW "x" = true := by decide +kernel
    have wy : isW "y" = true := by decide +kernel
    simp only [List.cons_append, List.nil_append, List.mem_cons, List.mem_nil_iff, or_false] at hx
    rcases hx with e | e | e | e | e <;> subst e
    · exact pl_of55 p1.1 p1.2 ⟨[true, true], by unfold plainT; simp, .cons wx (.cons zw .nil), fun _ => by decide +kernel⟩ (tgt55 zn)
    · exact pl_of55 p2.1 p2.2 ⟨[true, true, true], by unfold plainT; simp, .cons wy (.cons zw (.cons wx .nil)), fun _ => by decide +kernel⟩ (tgt55 zn)
    · exact pl_of55 p3.1 p3.2 ⟨[true, true], by unfold plainT; simp, .cons wy (.cons zw .nil), fun _ => by decide +kernel⟩ (tgt55 zn)
    · exact pl_of55 p4.1 p4.2 ⟨[true, true], by unfold plainT; simp, .cons wy (.cons zw .nil), fun _ => by decide +kernel⟩ (tgt55 zn)
    · exact pl_of55 p5.1 p5.2 ⟨[true, true, true], by unfold plainT; simp, .cons wy (.cons zw (.cons wx .nil)), fun _ => by decide +kernel⟩ (tgt55 zn)
  clear p1 p2 p3 p4 p5 fr_ at11
  have sz1 : 1 ≤ sizeLine := by decide
  have sz2 : 2 ≤ sizeLine := by decide
  refine ⟨_, rfl, _, rfl, _, rfl, sz1, fun u1 nu1 => ?_⟩
  generalize hE_u1 : upd G12 u1 _ = I1
  have s_u1 : Same G12 I1 := by rw [← hE_u1]; exact Same.new nu1
  have h_u1 : I1 u1 = some (.tup [x]) := by rw [← hE_u1]; exact upd_same
  refine ⟨sz3, fun u2 nu2 => ?_⟩
  generalize hE_u2 : upd I1 u2 _ = I2
  have s_u2 : Same I1 I2 := by rw [← hE_u2]; exact Same.new nu2
  have h_u2 : I2 u2 = some (.tup [.str "make", .str "f", .ref u1]) := by rw [← hE_u2]; exact upd_same
  refine ⟨sz2, fun u3 nu3 => ?_⟩
  generalize hE_u3 : upd I2 u3 _ = I3
  have s_u3 : Same I2 I3 := by rw [← hE_u3]; exact Same.new nu3
  have h_u3 : I3 u3 = some (.tup [.str "say", .int 1]) := by rw [← hE_u3]; exact upd_same
  refine ⟨sz1, fun u4 nu4 => ?_⟩
  generalize hE_u4 : upd I3 u4 _ = I4
  have s_u4 : Same I3 I4 := by rw [← hE_u4]; exact Same.new nu4
  have h_u4 : I4 u4 = some (.tup [.ref u3]) := by rw [← hE_u4]; exact upd_same
  refine ⟨_, rfl, sz1, fun u5 nu5 => ?_⟩
  generalize hE_u5 : upd I4 u5 _ = I5
  have s_u5 : Same I4 I5 := by rw [← hE_u5]; exact Same.new nu5
  have h_u5 : I5 u5 = some (.tup [x]) := by rw [← hE_u5]; exact upd_same
  refine ⟨sz3, fun u6 nu6 => ?_⟩
  generalize hE_u6 : upd I5 u6 _ = I6
  have s_u6 : Same I5 I6 := by rw [← hE_u6]; exact Same.new nu6
  have h_u6 : I6 u6 = some (.tup [.str "try", .ref u4, .ref u5]) := by rw [← hE_u6]; exact upd_same
  refine ⟨_, rfl, sz1, fun u7 nu7 => ?_⟩
  generalize hE_u7 : upd I6 u7 _ = I7
  have s_u7 : Same I6 I7 := by rw [← hE_u7]; exact Same.new nu7
  have h_u7 : I7 u7 = some (.tup [x]) := by rw [← hE_u7]; exact upd_same
  refine ⟨sz2, fun u8 nu8 => ?_⟩
  generalize hE_u8 : upd I7 u8 _ = I8
  have s_u8 : Same I7 I8 := by rw [← hE_u8]; exact Same.new nu8
  have h_u8 : I8 u8 = some (.tup [.str "drop", .str "x"]) := by rw [← hE_u8]; exact upd_same
  refine ⟨sz1, fun u9 nu9 => ?_⟩
  generalize hE_u9 : upd I8 u9 _ = I9
  have s_u9 : Same I8 I9 := by rw [← hE_u9]; exact Same.new nu9
  have h_u9 : I9 u9 = some (.tup [.ref u8]) := by rw [← hE_u9]; exact upd_same
  refine ⟨sz4, fun u10 nu10 => ?_⟩
  generalize hE_u10 : upd I9 u10 _ = I10
  have s_u10 : Same I9 I10 := by rw [← hE_u10]; exact Same.new nu10
  have h_u10 : I10 u10 = some (.tup [.str "when", .str "x", .ref u7, .ref u9]) := by rw [← hE_u10]; exact upd_same
  refine ⟨(by show 5 ≤ sizeLine; decide), fun L nL => ?_⟩
  generalize hE_L : upd I10 L _ = I11
  have s_L : Same I10 I11 := by rw [← hE_L]; exact Same.new nL
  have h_L : I11 L = some (.lst [x, x, .ref u2, .ref u6, .ref u10]) := by rw [← hE_L]; exact upd_same
  refine ⟨_, rfl, .inl ⟨rfl, _, SqL.of h_L⟩, Nat.zero_le _, fun y1 ny1 => ?_⟩
  generalize hE_y1 : upd I11 y1 _ = J1
  have s_y1 : Same I11 J1 := by rw [← hE_y1]; exact Same.new ny1
  have h_y1 : J1 y1 = some (.tup []) := by rw [← hE_y1]; exact upd_same
  refine ⟨_, rfl, sz1, fun y2 ny2 => ?_⟩
  generalize hE_y2 : upd J1 y2 _ = J2
  have s_y2 : Same J1 J2 := by rw [← hE_y2]; exact Same.new ny2
  have h_y2 : J2 y2 = some (.tup [x]) := by rw [← hE_y2]; exact upd_same
  refine ⟨Nat.zero_le _, fun y3 ny3 => ?_⟩
  generalize hE_y3 : upd J2 y3 _ = J3
  have s_y3 : Same J2 J3 := by rw [← hE_y3]; exact Same.new ny3
  have h_y3 : J3 y3 = some (.tup []) := by rw [← hE_y3]; exact upd_same
  refine ⟨sz3, fun y4 ny4 => ?_⟩
  generalize hE_y4 : upd J3 y4 _ = J4
  have s_y4 : Same J3 J4 := by rw [← hE_y4]; exact Same.new ny4
  have h_y4 : J4 y4 = some (.tup [.str "try", .ref y2, .ref y3]) := by rw [← hE_y4]; exact upd_same
  refine ⟨sz1, fun y5 ny5 => ?_⟩
  generalize hE_y5 : upd J4 y5 _ = J5
  have s_y5 : Same J4 J5 := by rw [← hE_y5]; exact Same.new ny5
  have h_y5 : J5 y5 = some (.tup [.ref y4]) := by rw [← hE_y5]; exact upd_same
  refine ⟨sz4, fun y6 ny6 => ?_⟩
  generalize hE_y6 : upd J5 y6 _ = J6
  have s_y6 : Same J5 J6 := by rw [← hE_y6]; exact Same.new ny6
  have h_y6 : J6 y6 = some (.tup [.str "when", .str "x", .ref y1, .ref y5]) := by rw [← hE_y6]; exact upd_same
  refine ⟨sz1, fun y7 ny7 => ?_⟩
  generalize hE_y7 : upd J6 y7 _ = J7
  have s_y7 : Same J6 J7 := by rw [← hE_y7]; exact Same.new ny7
  have h_y7 : J7 y7 = some (.tup [.ref y6]) := by rw [← hE_y7]; exact upd_same
  refine ⟨sz3, fun y8 ny8 => ?_⟩
  generalize hE_y8 : upd J7 y8 _ = J8
  have s_y8 : Same J7 J8 := by rw [← hE_y8]; exact Same.new ny8
  have h_y8 : J8 y8 = some (.tup [.str "make", .str "g", .ref y7]) := by rw [← hE_y8]; exact upd_same
  have a9 := Same.trans s_u10 s_L
  have a8 := Same.trans s_u9 a9
  have a7 := Same.trans s_u8 a8
  have a6 := Same.trans s_u7 a7
  have a5 := Same.trans s_u6 a6
  have a4 := Same.trans s_u5 a5
  have a3 := Same.trans s_u4 a4
  have a2 := Same.trans s_u3 a3
  have a1 := Same.trans s_u2 a2
  have a0 := Same.trans s_u1 a1
  have b7 := s_y8
  have b6 := Same.trans s_y7 b7
  have b5 := Same.trans s_y6 b6
  have b4 := Same.trans s_y5 b5
  have b3 := Same.trans s_y4 b4
  have b2 := Same.trans s_y3 b3
  have b1 := Same.trans s_y2 b2
  have b0 := Same.trans s_y1 b1
  have all := Same.trans a0 b0
  have sr8 := s12.fr (Fr.same (ok := fun _ => True) all) trivial
  refine ⟨L, [x, x, .ref u2, .ref u6, .ref u10], _, rfl, rfl, b0 _ _ h_L, (by show 5 < sizeLine; decide), ?_⟩
  generalize hE : upd J8 L _ = J9
  have hL9 : J9 L = some (.lst ([x, x, .ref u2, .ref u6, .ref u10] ++ [.ref y8])) := by rw [← hE]; exact upd_same
  have fL : Fr (· ≠ L) J8 J9 := by rw [← hE]; exact Fr.put fun z => z rfl
  have La : L ≠ a := (s12.fr (Fr.same (ok := fun _ => True) (Same.trans s_u1 (Same.trans s_u2 (Same.trans s_u3 (Same.trans s_u4 (Same.trans s_u5 (Same.trans s_u6 (Same.trans s_u7 (Same.trans s_u8 (Same.trans s_u9 s_u10)))))))))) trivial).nn nL
  have sr9 : Src J9 a (n + 2) := by
    have := sr8.fr fL (fun z => La z.symm)
    rwa [show n + 1 + 1 = n + 2 by omega] at this
  refine ⟨_, rfl, _, rfl, a, L, _, n + 2, rfl, sr9, by omega, La, hL9, by simp, (by show 6 < 1000000; decide), fun K1 v fK sK hv => ?_⟩
  have s10 : Same G12 I10 := Same.trans s_u1 (Same.trans s_u2 (Same.trans s_u3 (Same.trans s_u4 (Same.trans s_u5 (Same.trans s_u6 (Same.trans s_u7 (Same.trans s_u8 (Same.trans s_u9 s_u10))))))))
  have fin : Fr (· ≠ a) H K1 := fun b o hb e => by
    have h1 := f0_12 _ _ hb e
    exact fK _ _ hb (fL _ _ (fun z => by have := s10 _ _ h1; rw [z, nL] at this; cases this) (all _ _ h1))
  have kt : ∀ b xs, J8 b = some (.tup xs) → K1 b = some (.tup xs) := fun b xs e => by
    refine fK _ _ (ne sr8 e) (fL _ _ (fun z => ?_) e)
    rw [z, b0 _ _ h_L] at e; cases e
  have fresh : ∀ {t : Addr} {G G' : Hp} {xs : List V}, Same G12 G → G t = none → Same G' J8 → G' t = some (.tup xs) → H t = none ∧ K1 t = some (.tup xs) := fun s e s' h => ⟨free f0_12 (Same.free s e) (ne sr8 (s' _ _ h)), kt _ _ (s' _ _ h)⟩
  have px1 : Pl55 H K1 x := (px.same all).tups kt
  have c1 := s_u1
  have c2 := Same.trans c1 s_u2
  have c3 := Same.trans c2 s_u3
  have c4 := Same.trans c3 s_u4
  have c5 := Same.trans c4 s_u5
  have c6 := Same.trans c5 s_u6
  have c7 := Same.trans c6 s_u7
  have c8 := Same.trans c7 s_u8
  have c9 := Same.trans c8 s_u9
  have c11 := Same.trans s10 s_L
  have d1 := Same.trans c11 s_y1
  have d2 := Same.trans d1 s_y2
  have d3 := Same.trans d2 s_y3
  have d4 := Same.trans d3 s_y4
  have d5 := Same.trans d4 s_y5
  have d6 := Same.trans d5 s_y6
  have d7 := Same.trans d6 s_y7
  have q1 := fresh (Same.refl _) nu1 (Same.trans a1 b0) h_u1
  have q2 := fresh c1 nu2 (Same.trans a2 b0) h_u2
  have q3 := fresh c2 nu3 (Same.trans a3 b0) h_u3
  have q4 := fresh c3 nu4 (Same.trans a4 b0) h_u4
  have q5 := fresh c4 nu5 (Same.trans a5 b0) h_u5
  have q6 := fresh c5 nu6 (Same.trans a6 b0) h_u6
  have q7 := fresh c6 nu7 (Same.trans a7 b0) h_u7
  have q8 := fresh c7 nu8 (Same.trans a8 b0) h_u8
  have q9 := fresh c8 nu9 (Same.trans a9 b0) h_u9
  have q10 := fresh c9 nu10 (Same.trans s_L b0) h_u10
  have r1 := fresh c11 ny1 b1 h_y1
  have r2 := fresh d1 ny2 b2 h_y2
  have r3 := fresh d2 ny3 b3 h_y3
  have r4 := fresh d3 ny4 b4 h_y4
  have r5 := fresh d4 ny5 b5 h_y5
  have r6 := fresh d5 ny6 b6 h_y6
  have r7 := fresh d6 ny7 b7 h_y7
  have r8 := fresh d7 ny8 (Same.refl _) h_y8
  have wf : isW "f" = true := by decide +kernel
  have wg : isW "g" = true := by decide +kernel
  have wx : isW "x" = true := by decide +kernel
  have one : ∀ {y : V} {d : Nat} {wi : Bool}, Rw55 H K1 d wi y → ∀ z ∈ [y], Rw55 H K1 d wi z := fun h z hz => List.mem_singleton.mp hz ▸ h
  have l1_ : ∀ {y : V}, [y].length ≤ 11 := fun {y} => (by decide : 1 ≤ 11)
  have l0_ : ([] : List V).length ≤ 11 := (by decide : 0 ≤ 11)
  have nil_ : ∀ {d : Nat} {wi : Bool}, ∀ z ∈ ([] : List V), Rw55 H K1 d wi z := fun z hz => nomatch hz
  have say : Pl55 H K1 (.ref u3) := pl_of55 q3.1 q3.2 ⟨[false], by unfold plainT; simp, .cons (by decide +kernel) .nil, fun _ => by decide +kernel⟩ fun o ho => by
    have : own1 (.plain "say" [.int 1]) = [] := by decide +kernel
    rw [this] at ho; cases ho
  have drop : Pl55 H K1 (.ref u8) := pl_of55 q8.1 q8.2 ⟨[true], by unfold plainT; simp, .cons wx .nil, fun _ => by decide +kernel⟩ fun o ho => by
    have : own1 (.plain "drop" [.str "x"]) = [] := by decide +kernel
    rw [this] at ho; cases ho
  refine q K1 v fin (by rwa [show n + 2 + 1 = n + 3 by omega] at sK) ?_
  simp only [List.cons_append, List.nil_append, List.mem_cons, List.mem_nil_iff, or_false] at hv
  rcases hv with e | e | e | e | e | e <;> subst e
  · exact px1.row 3 false
  · exact px1.row 3 false
  · exact make55 q2.1 q2.2 q1.1 q1.2 wf l1_ (one (px1.row 2 true))
  · exact try55 q6.1 q6.2 q4.1 q4.2 q5.1 q5.2 l1_ l1_ (one (say.row 2 false)) (one (px1.row 2 false))
  · exact when55 q10.1 q10.2 q7.1 q7.2 q9.1 q9.2 wx l1_ l1_ (one (px1.row 2 false)) (one (drop.row 2 false))
  · exact make55 r8.1 r8.2 r7.1 r7.2 wg l1_ (one (when55 (d := 1) r6.1 r6.2 r1.1 r1.2 r5.1 r5.2 wx l0_ l1_ nil_ (one (try55 (d := 0) r4.1 r4.2 r2.1 r2.2 r3.1 r3.2 l1_ l0_ (one (px1.row 0 true)) nil_))))
end
end Ft
set_option Elab.async false
set_option linter.all false
set_option maxRecDepth 100000
set_option maxHeartbeats 4000000
set_option Elab.async false
set_option linter.all false
set_option maxRecDepth 100000
set_option maxHeartbeats 1000000
set_option pp.maxSteps 2500
set_option pp.deepTerms.threshold 8
namespace Ft
open PySem L2 PySem.W
theorem nm55_none {lib : Lib} {m : Str} (h : m ∉ lib.map (·.1)) : nm55 lib m = [] := by
  unfold nm55
  rw [List.find?_eq_none.mpr fun p hp z => h (List.mem_map.mpr ⟨p, hp, beq_iff_eq.mp z⟩)]
theorem nm55_perm {l1 l2 : Lib} (p : l1.Perm l2) (nd : (l2.map (·.1)).Nodup) : nm55 l1 = nm55 l2 := by
  funext m
  have nd1 : (l1.map (·.1)).Nodup := (p.map (·.1)).nodup_iff.mpr nd
  by_cases h : m ∈ l2.map (·.1)
  · obtain ⟨q, hq, rfl⟩ := List.mem_map.mp h
    obtain ⟨m, rs⟩ := q
    rw [nm55_of nd hq, nm55_of nd1 (p.mem_iff.mpr hq)]
  · rw [nm55_none h, nm55_none fun z => h ((p.map (·.1)).mem_iff.mp z)]
theorem rings55_perm {l1 l2 : Lib} (p : l1.Perm l2) (nd : (l2.map (·.1)).Nodup) (ws : List Str) : rings55 l1 ws = rings55 l2 ws := by
  have e := nm55_perm p nd
  have v : ∀ a b, Via (nm55 l1) (l1.map (·.1)) a b ↔ Via (nm55 l2) (l2.map (·.1)) a b := fun a b => by
    rw [e]
    exact ⟨fun h => h.mono fun x hx => (p.map (·.1)).mem_iff.mp hx, fun h => h.mono fun x hx => (p.map (·.1)).mem_iff.mpr hx⟩
  have r : ring55 l1 ws = ring55 l2 ws := by
    funext m
    unfold ring55
    refine List.filter_congr fun o _ => ?_
    rw [v, v]
  unfold rings55
  rw [r]
theorem words_eq {ws us ks : List Str} (p : ws.Perm ks) (q : us.Perm ks) (s : PyProof.Rows.sortedS ws = true) (t : PyProof.Rows.sortedS us = true) (nd : ks.Nodup) : ws = us := by
  have h2 := sortedS_strict s (p.nodup_iff.mpr nd)
  have h3 := sortedS_strict t (q.nodup_iff.mpr nd)
  exact sorted_eq (lt := fun a b : Str => a.cps.toList < b.cps.toList) (p.trans q.symm) (h2.imp fun h => List.lt_asymm h) h3
def tab0 (lib : Lib) (ws : List Str) : List (Str × Str) := (ws.flatMap fun a => (nm55 lib a).map fun b => (a, b)).foldl putP []
def tabC (lib : Lib) (ws : List Str) : List (Str × Str) := ws.foldl (stM ws) (tab0 lib ws)
def ringC (t : List (Str × Str)) (ws : List Str) (m : Str) : List Str := ws.filter fun o => decide ((m, o) ∈ t ∧ (o, m) ∈ t)
theorem ring55_c {lib : Lib} {ws : List Str} (p : ws.Perm (lib.map (·.1))) {m : Str} (hm : m ∈ ws) : ring55 lib ws m = ringC (tabC lib ws) ws m := by
  have tab : ∀ a ∈ ws, ∀ b ∈ ws, (a, b) ∈ tabC lib ws ↔ Via (nm55 lib) (lib.map (·.1)) a b := fun a ha b hb => by
    refine table55 (fun x => p.mem_iff) (fun a b => ?_) a (p.mem_iff.mp ha) b (p.mem_iff.mp hb)
    unfold tab0
    rw [mem_putPs]
    constructor
    · rintro (h | h)
      · cases h
      · obtain ⟨x, hx, h⟩ := List.mem_flatMap.mp h
        obtain ⟨y, hy, e⟩ := List.mem_map.mp h
        cases e
        exact ⟨p.mem_iff.mp hx, hy⟩
    · rintro ⟨h1, h2⟩
      exact .inr (List.mem_flatMap.mpr ⟨a, p.mem_iff.mpr h1, List.mem_map.mpr ⟨b, h2, rfl⟩⟩)
  unfold ring55 ringC
  refine List.filter_congr fun o ho => ?_
  rw [decide_eq_decide, tab m hm o ho, tab o ho m hm]
theorem rings55_c {lib : Lib} {ws : List Str} (p : ws.Perm (lib.map (·.1))) : rings55 lib ws = (once (ws.map (ringC (tabC lib ws) ws))).mergeSort (dataLe false strsD) := by
  unfold rings55
  rw [List.map_congr_left fun m hm => ring55_c p hm]
/-- a written library: its sorted words, its rings -/
theorem rings_is {lib : Lib} (ks : List Str) (rs : List (List Str)) (p : ks.Perm (lib.map (·.1))) (s : PyProof.Rows.sortedS ks = true) (nd : (lib.map (·.1)).Nodup) (h : once (ks.map (ringC (tabC lib ks) ks)) = rs) (hs : rs.Pairwise fun a b => dataLe false strsD a b = true)
    {ws : List Str} (pw : ws.Perm (lib.map (·.1))) (sw : PyProof.Rows.sortedS ws = true) : rings55 lib ws = rs := by
  have e := words_eq pw p sw s nd
  subst e
  rw [rings55_c pw, h, List.mergeSort_of_pairwise hs]
def libF1 : Lib := [("a", [])]
def libF2 : Lib := [("a", [.plain "seen" [.str "x", .str "b"], .plain "part" [.str "y", .str "b", .str "x"], .plain "seen" [.str "z", .str "a"]]), ("b", [.plain "load" [.str "x", .str "a"]])]
def libF3 : Lib := [("a", [.plain "load" [.str "x", .str "a"]])]
def libF4 : Lib := [("c", [.plain "load" [.str "x", .str "c"]]), ("a", [.plain "load" [.str "x", .str "b"]]), ("b", [.plain "pick" [.str "x", .str "a", .str "x"]])]
theorem f1_is {ws : List Str} (pw : ws.Perm (libF1.map (·.1))) (sw : PyProof.Rows.sortedS ws = true) : rings55 libF1 ws = [] :=
  rings_is ["a"] [] (.refl _) (by decide +kernel) (by decide +kernel) (by decide +kernel) .nil pw sw
theorem f2_is {ws : List Str} (pw : ws.Perm (libF2.map (·.1))) (sw : PyProof.Rows.sortedS ws = true) : rings55 libF2 ws = [] :=
  rings_is ["a", "b"] [] (.refl _) (by decide +kernel) (by decide +kernel) (by decide +kernel) .nil pw sw
theorem f3_is {ws : List Str} (pw : ws.Perm (libF3.map (·.1))) (sw : PyProof.Rows.sortedS ws = true) : rings55 libF3 ws = [[("a" : Str)]] :=
  rings_is ["a"] [["a"]] (.refl _) (by decide +kernel) (by decide +kernel) (by decide +kernel) (List.pairwise_singleton _ _) pw sw
theorem f4_is {ws : List Str} (pw : ws.Perm (libF4.map (·.1))) (sw : PyProof.Rows.sortedS ws = true) : rings55 libF4 ws = [[("a" : Str), "b"], ["c"]] :=
  rings_is ["a", "b", "c"] [["a", "b"], ["c"]] (by decide +kernel) (by decide +kernel) (by decide +kernel) (by decide +kernel) (List.pairwise_pair.mpr (by decide +kernel)) pw sw
end Ft
set_option Elab.async false
set_option linter.all false
set_option maxRecDepth 100000
set_option maxHeartbeats 4000000
namespace Ft
open PySem L2
theorem atom_bilt {x : V} (h : isAtom x = true) (hb : isIntB x = false) : kitAnyB (atomT x) ["bool", "int", "list", "tuple"] = some false := by
  cases x with
  | non => decide +kernel
  | str z => show kitAnyB "str" ["bool", "int", "list", "tuple"] = some false; decide +kernel
  | bl b => cases hb
  | int i => cases hb
  | _ => cases h
section
variable {P : Program} {w : World} {K : PySem.W.Frag} {mg : Str → Option Value} {base : Heap}
abbrev sLSame : Stmt := topS 37
theorem scLSame : FnScope ["_law_found", "_law_due", "_law_one", "_law_two"] ["_law_found", "_law_due"] (defScope sLSame) := ⟨rfl, rfl, rfl, by decide +kernel, rfl, by decide +kernel, by decide +kernel⟩
def spLSame (m : Nat) : Sp := fun vs H Q _ => ∃ (u v : V) (t : DT), vs = [u, v] ∧ DtAt H m u t ∧ DtAt H m v t ∧ ∀ H', Same H H' → Q (.bl true) H'
theorem ok_LSame {f : Addr} {fd : FuncData} {k m : Nat} {spF : Sp} (F : Fun K "_law_same" "_law_same" sLSame f fd) (B : Bl mg) (gLSame : Own P w K mg base k "_law_same" ["_law_found", "_law_due"] spF) (hF : ∀ e, m = e + 1 → spF = spLSame e) : FnOk P w K mg base CX0 (k + 1) f fd ["_law_found", "_law_due"] (spLSame m) := by
  refine F.ok scLSame (fun vs H Q E h => ?_) (fun cdv A outer s H vs Q E hr h => ?_)
  · obtain ⟨u, v, t, rfl, _⟩ := h
    rfl
  obtain ⟨u, v, t, rfl, hu, hv, q⟩ := h
  refine ⟨_, (pss_cons (ps_if (pt_val (pe_callB call_isiT (by rfl) B.isinstance (by decide +kernel) (pa_cons (pv 1) (pa_cons (pe_tup (pa_cons (pe_bltn (v := .ty "list") (by rfl) B.list (by decide +kernel) rfl) (pa_cons (pe_bltn (v := .ty "tuple") (by rfl) B.tuple (by decide +kernel) rfl) pa_nil))) pa_nil)))) (pss_cons (ps_if (PW.pt (pw_or (pt_cmpR op_ne (pe_callB call_isi (by rfl) B.isinstance (by decide +kernel) (pa_cons (pv 0) (pa_cons (pe_bltn (v := .ty "list") (by rfl) B.list (by decide +kernel) rfl) pa_nil))) (pe_callB call_isi (by rfl) B.isinstance (by decide +kernel) (pa_cons (pv 1) (pa_cons (pe_bltn (v := .ty "list") (by rfl) B.list (by decide +kernel) rfl) pa_nil))) (nomark _)) (pw_or1 (pt_cmpR op_ne (pe_callB call_isi (by rfl) B.isinstance (by decide +kernel) (pa_cons (pv 0) (pa_cons (pe_bltn (v := .ty "tuple") (by rfl) B.tuple (by decide +kernel) rfl) pa_nil))) (pe_callB call_isi (by rfl) B.isinstance (by decide +kernel) (pa_cons (pv 1) (pa_cons (pe_bltn (v := .ty "tuple") (by rfl) B.tuple (by decide +kernel) rfl) pa_nil))) (nomark _))))) (pss_one (ps_ret pe_bl)) pss_nil)
      (pss_one (ps_ret (pe_and (pe_cmpR op_eq (pe_callB call_len_seq (by rfl) B.len (by decide +kernel) (pa_cons (pv 0) pa_nil)) (pe_callB call_len_seq (by rfl) B.len (by decide +kernel) (pa_cons (pv 1) pa_nil)) (nomark _)) (pe_one (pe_callB (cr_all rfl) (by rfl) B.all (by decide +kernel) (pa_cons (pe_lc (own := [("_law_one", 2), ("_law_two", 3)]) (g := (gTup _ 2 (gCons (gName 2) (gCons (gName 3) gNil)))) (tt := tYes) (by rfl) scLSame.nd (pi_zipQ (by rfl) B.zip (pa_cons (pv 0) (pa_cons (pv 1) pa_nil))) (blkOk_by (own := [("_law_one", 2), ("_law_two", 3)]) (N := ["_law_found", "_law_due", "_law_one", "_law_two"]) (sc := defScope sLSame) (by decide +kernel)) (fun _ _ _ _ _ => (pg_tup (by rfl) (pgs_cons (pg_name (i := 2) scLSame.nd rfl (by first | exact Or.inl rfl | exact Or.inr rfl)) (pgs_cons (pg_name (i := 3) scLSame.nd rfl (by first | exact Or.inl rfl | exact Or.inr rfl)) pgs_nil)))) (fun _ _ _ _ _ => pts_nil) (fun _ _ _ _ _ => (pe_own gLSame (hr.mono (by omega)) (by rfl) (pa_cons (pv 2) (pa_cons (pv 3) pa_nil))))) pa_nil))))))) pss_nil)
      (pss_cons (ps_if (pt_val (pe_callB call_isiT (by rfl) B.isinstance (by decide +kernel) (pa_cons (pv 1) (pa_cons (pe_tup (pa_cons (pe_bltn (v := .ty "bool") (by rfl) B.bool (by decide +kernel) rfl) (pa_cons (pe_bltn (v := .ty "int") (by rfl) B.int (by decide +kernel) rfl) pa_nil))) pa_nil)))) (pss_one (ps_ret (pe_and (pe_callB call_isi (by rfl) B.isinstance (by decide +kernel) (pa_cons (pv 0) (pa_cons (pe_bltn (v := .ty "int") (by rfl) B.int (by decide +kernel) rfl) pa_nil))) (pe_and (pe_cmpR op_eq (pe_callB call_isi (by rfl) B.isinstance (by decide +kernel) (pa_cons (pv 0) (pa_cons (pe_bltn (v := .ty "bool") (by rfl) B.bool (by decide +kernel) rfl) pa_nil))) (pe_callB call_isi (by rfl) B.isinstance (by decide +kernel) (pa_cons (pv 1) (pa_cons (pe_bltn (v := .ty "bool") (by rfl) B.bool (by decide +kernel) rfl) pa_nil))) (nomark _)) (pe_one (pe_cmpR op_eq (pv 0) (pv 1) (nomark _))))))) pss_nil)
      (pss_one (ps_ret (pe_and (pe_not (pe_callB call_isiT (by rfl) B.isinstance (by decide +kernel) (pa_cons (pv 0) (pa_cons (pe_tup (pa_cons (pe_bltn (v := .ty "bool") (by rfl) B.bool (by decide +kernel) rfl) (pa_cons (pe_bltn (v := .ty "list") (by rfl) B.list (by decide +kernel) rfl) (pa_cons (pe_bltn (v := .ty "tuple") (by rfl) B.tuple (by decide +kernel) rfl) pa_nil)))) pa_nil)))) (pe_one (pe_cmpR op_eq (pv 0) (pv 1) (nomark _)))))))), ?_⟩
  refine ⟨_, rfl, (by show 2 ≤ sizeLine; decide), fun t0 nt => ?_⟩
  have s0 : Same H (upd H t0 (.tup [.ty "list", .ty "tuple"])) := Same.new nt
  cases t with
  | sq kd ts =>
    cases m with
    | zero => exact hu.elim
    | succ m =>
      have eF := hF m rfl
      subst eF
      obtain ⟨a, xs, rfl, ha, hl, hxs⟩ := hu
      obtain ⟨b, ys, rfl, hb, _, hys⟩ := hv
      have ha0 := s0 _ _ ha
      have hb0 := s0 _ _ hb
      refine ⟨_, t0, _, _, _, _, rfl, upd_same, clsV_all ["list", "tuple"], seq_ty hb0, kitAny_of (seq_lt kd), true, rfl, iteT ?_⟩
      have lx : xs.length = ts.length := by
        have : ∀ {xs : List V} {ts : List DT}, Paired (DtAt H m) xs ts → xs.length = ts.length := fun h => by
          induction h with
          | nil => rfl
          | cons _ _ ih => rw [List.length_cons, List.length_cons, ih]
        exact this hxs
      have ly : ys.length = ts.length := by
        have : ∀ {xs : List V} {ts : List DT}, Paired (DtAt H m) xs ts → xs.length = ts.length := fun h => by
          induction h with
          | nil => rfl
          | cons _ _ ih => rw [List.length_cons, List.length_cons, ih]
        exact this hys
      generalize hG : upd H t0 _ = G at *
      refine ⟨_, rfl, _, _, _, _, _, rfl, .ty _, seq_ty ha0, kit_ty (seqT_list kd), _, rfl, _, _, _, _, _, rfl, .ty _, seq_ty hb0, kit_ty (seqT_list kd), rfl, _, rfl, ?_⟩
      rw [decide_eq_true (rfl : V.bl kd = V.bl kd)]
      refine iteF ⟨_, rfl, _, _, _, _, _, rfl, .ty _, seq_ty ha0, kit_ty (seqT_tuple kd), _, rfl, _, _, _, _, _, rfl, .ty _, seq_ty hb0, kit_ty (seqT_tuple kd), rfl, _, rfl, ?_⟩
      rw [decide_eq_true (rfl : V.bl (!kd) = V.bl (!kd))]
      refine iteF ?_
      refine ⟨_, rfl, a, xs, rfl, sqa_of (sq_of ha0), _, rfl, b, ys, rfl, sqa_of (sq_of hb0), rfl, _, rfl, ?_⟩
      have el : decide (V.int ((xs.length : Nat) : Int) = V.int ((ys.length : Nat) : Int)) = true := decide_eq_true (by rw [lx, ly])
      rw [el]
      refine iteT ⟨_, rfl, _, rfl, a, b, kd, kd, xs, ys, rfl, sq_of ha0, sq_of hb0, fun L nL => ?_⟩
      refine lc_it (walk_zipQ (n := ts.length) (by omega)) (fun i H' => Same G H' ∧ H' L = some (.lst (List.replicate i (.bl true))))
        ⟨Same.new nL, upd_same⟩ (fun i H' _ ⟨sm, _⟩ => ⟨sq_of (sm _ _ ha0), sq_of (sm _ _ hb0)⟩) ?_ ?_
      · rintro i x H1 H2 hi ⟨sm, hL⟩ ⟨T, x1, x2, rfl, nT, rfl, e1, e2⟩
        have g1 : ∃ t', ts[i]? = some t' ∧ DtAt H m x1 t' := by
          have : ∀ {xs : List V} {ts : List DT} {i : Nat} {x : V}, Paired (DtAt H m) xs ts → xs[i]? = some x → ∃ t', ts[i]? = some t' ∧ DtAt H m x t' := fun {xs ts i x} h => by
            induction h generalizing i with
            | nil => intro e; simp at e
            | cons r _ ih =>
              intro e
              cases i with
              | zero =>
                have z := Option.some.inj e
                subst z
                exact ⟨_, rfl, r⟩
              | succ i => exact ih (i := i) e
          exact this hxs e1
        have g2 : ∃ t', ts[i]? = some t' ∧ DtAt H m x2 t' := by
          have : ∀ {xs : List V} {ts : List DT} {i : Nat} {x : V}, Paired (DtAt H m) xs ts → xs[i]? = some x → ∃ t', ts[i]? = some t' ∧ DtAt H m x t' := fun {xs ts i x} h => by
            induction h generalizing i with
            | nil => intro e; simp at e
            | cons r _ ih =>
              intro e
              cases i with
              | zero =>
                have z := Option.some.inj e
                subst z
                exact ⟨_, rfl, r⟩
              | succ i => exact ih (i := i) e
          exact this hys e2
        obtain ⟨t1, ht1, d1⟩ := g1
        obtain ⟨t2, ht2, d2⟩ := g2
        have et : t1 = t2 := Option.some.inj (ht1.symm.trans ht2)
        subst et
        have s5 : Same H (upd H1 T (.tup [x1, x2])) := Same.trans s0 (Same.trans sm (Same.new nT))
        have nLT : L ≠ T := ne_of_none hL nT
        refine ⟨T, _, rfl, SqT.of upd_same, rfl, _, _, rfl, _, _, rfl, rfl, rfl, ?_⟩
        refine ⟨_, rfl, _, rfl, x1, x2, t1, rfl, d1.to (fun a kd xs e => s5 _ _ e), d2.to (fun a kd xs e => s5 _ _ e), fun H3 s6 => ?_⟩
        refine ⟨_, s6 _ _ (by rw [upd_ne nLT]; exact hL), by rw [List.length_replicate]; exact big (by omega), Same.upN (Same.trans sm (Same.trans (Same.new nT) s6)) nL, ?_⟩
        rw [upd_same, List.replicate_succ']
      · rintro H1 ⟨sm, hL⟩
        refine ⟨L, List.replicate ts.length true, rfl, SqL.of (by rw [hL, List.map_replicate]), ?_⟩
        have ea : (List.replicate ts.length true).all id = true := by
          rw [List.all_eq_true]
          intro b hb
          rw [List.eq_of_mem_replicate hb]; rfl
        rw [ea]
        exact q _ (Same.trans s0 sm)
  | «at» x =>
    obtain ⟨rfl, hx⟩ : u = x ∧ isAtom x = true := by cases m <;> exact hu
    obtain ⟨rfl, _⟩ : v = u ∧ isAtom u = true := by cases m <;> exact hv
    refine ⟨_, t0, _, _, _, _, rfl, upd_same, clsV_all ["list", "tuple"], atom_ty hx, kitAny_of (atom_lt hx), false, rfl, iteF ?_⟩
    generalize hG : upd H t0 _ = G at *
    refine ⟨_, rfl, (by show 2 ≤ sizeLine; decide), fun t1 nt1 => ?_⟩
    have s1 : Same H (upd G t1 (.tup [.ty "bool", .ty "int"])) := Same.trans s0 (Same.new nt1)
    refine ⟨_, t1, _, _, _, _, rfl, upd_same, clsV_all ["bool", "int"], atom_ty hx, kitAny_of (atom_bi hx), _, rfl, ?_⟩
    generalize hG1 : upd G t1 _ = G1 at *
    have sc : scal v v = true := by cases v <;> first | rfl | cases hx
    cases hib : isIntB v with
    | true =>
      refine iteT ⟨_, rfl, _, _, _, _, _, rfl, .ty _, atom_ty hx, kit_ty (atom_int hx), _, rfl, ?_⟩
      rw [hib]
      refine iteT ⟨_, rfl, _, _, _, _, _, rfl, .ty _, atom_ty hx, kit_ty (atom_bool hx), _, rfl, _, _, _, _, _, rfl, .ty _, atom_ty hx, kit_ty (atom_bool hx), rfl, _, rfl, ?_⟩
      rw [decide_eq_true (rfl : V.bl (isBl v) = V.bl (isBl v))]
      refine iteT ⟨_, rfl, _, rfl, sc, ?_⟩
      rw [decide_eq_true (rfl : v = v)]
      exact q _ s1
    | false =>
      first
      | (refine iteF ⟨_, rfl, (by show 3 ≤ sizeLine; decide), fun t2 nt2 => ?_⟩
         have s2 : Same H (upd G1 t2 (.tup [.ty "bool", .ty "list", .ty "tuple"])) := Same.trans s1 (Same.new nt2)
         refine ⟨_, t2, _, _, _, _, rfl, upd_same, clsV_all ["bool", "list", "tuple"], atom_ty hx, kitAny_of (atom_blt hx hib), false, rfl, true, rfl, iteT ⟨_, rfl, _, rfl, sc, ?_⟩⟩
         rw [decide_eq_true (rfl : v = v)]
         exact q _ s2)
      | (refine iteF ⟨_, rfl, (by show 4 ≤ sizeLine; decide), fun t2 nt2 => ?_⟩
         have s2 : Same H (upd G1 t2 (.tup [.ty "bool", .ty "int", .ty "list", .ty "tuple"])) := Same.trans s1 (Same.new nt2)
         refine ⟨_, t2, _, _, _, _, rfl, upd_same, clsV_all ["bool", "int", "list", "tuple"], atom_ty hx, kitAny_of (atom_bilt hx hib), false, rfl, true, rfl, iteT ⟨_, rfl, _, rfl, sc, ?_⟩⟩
         rw [decide_eq_true (rfl : v = v)]
         exact q _ s2)
theorem lsame_ok {f : Addr} {fd : FuncData} (F : Fun K "_law_same" "_law_same" sLSame f fd) (B : Bl mg) (m : mg "_law_same" = some (.ref f)) (b : Binds K fd ["_law_found", "_law_due"] []) : ∀ d : Nat, Own P w K mg base (1 + d) "_law_same" ["_law_found", "_law_due"] (spLSame d)
  | 0 => own_mk F m b (ok_LSame (k := 0) F B (own_mk F m b fn_false) (fun e h => absurd h (by omega)))
  | d + 1 => own_mk F m b (ok_LSame (k := 1 + d) F B (lsame_ok F B m b d) (fun e h => by
      have : d = e := by omega
      rw [this]))
end
end Ft
set_option Elab.async false
set_option linter.all false
set_option maxRecDepth 100000
set_option maxHeartbeats 1000000
set_option pp.maxSteps 2500
set_option pp.deepTerms.threshold 8
namespace Ft
open PySem L2 PySem.W
abbrev M55 := List (Str × Addr × List Row)
def lib55 (ms : M55) : Lib := ms.map fun m => (m.1, m.2.2)
structure Md55 (G H : Hp) (D : Addr) (ms : M55) : Prop where
  d : H D = some (.dK (ms.map fun m => (Sum.inr m.1, .ref m.2.1)))
  nd : (ms.map (·.2.1)).Nodup
  at_ : ∀ m ∈ ms, G m.2.1 = none ∧ ∃ xs, H m.2.1 = some (.lst xs) ∧ Paired (RowAt (fun _ => True) tupK H 3) xs m.2.2
  ok : ∀ m ∈ ms, m.1 ∈ nw55 ∧ ∀ r ∈ m.2.2, RowOk 3 false r ∧ NmIn 3 r
theorem Md55.fr {G H H' : Hp} {a D : Addr} {ms : M55} (h : Md55 G H D ms) (f : Fr (· ≠ a) H H') (ga : G a ≠ none) (ha : ∃ xs, H a = some (.lst xs)) : Md55 G H' D ms := by
  obtain ⟨ys, ha⟩ := ha
  have t : ∀ b xs, H b = some (.tup xs) → H' b = some (.tup xs) := fun b xs e => f _ _ (fun z => by rw [z, ha] at e; cases e) e
  refine ⟨f _ _ (fun z => by have := h.d; rw [z, ha] at this; cases this) h.d, h.nd, fun m hm => ?_, h.ok⟩
  obtain ⟨n, xs, e, p⟩ := h.at_ m hm
  exact ⟨n, xs, f _ _ (fun z => ga (z ▸ n)) e, paired_imp p fun v r q => RowAt.tups t 3 v r q⟩
theorem Md55.lib {G H : Hp} {D : Addr} {ms : M55} (h : Md55 G H D ms) : LibAt (fun y => H y ≠ none) mixK H (ms.map fun m => (Sum.inr m.1, .ref m.2.1)) (lib55 ms) := by
  have go : ∀ {l : M55}, (∀ m ∈ l, m ∈ ms) → LibAt (fun y => H y ≠ none) mixK H (l.map fun m => (Sum.inr m.1, .ref m.2.1)) (lib55 l) := fun {l} => by
    induction l with
    | nil => exact fun _ => .nil
    | cons m l ih =>
      intro hl
      obtain ⟨_, xs, e, p⟩ := h.at_ m (hl m (by simp))
      refine .cons ⟨rfl, xs, ⟨_, true, rfl, (by show H m.2.1 ≠ none; rw [e]; exact fun z => nomatch z), (fun z => nomatch z), e⟩, ?_⟩ (ih fun x hx => hl x (by simp [hx]))
      exact paired_imp p fun v r q => (q.kk fun _ _ => mix_tup).to (Keep.mono fun x _ hx => hx)
  exact go fun m hm => hm
theorem Md55.app {G H : Hp} {D : Addr} {ms : M55} (h : Md55 G H D ms) (ndk : (ms.map (·.1)).Nodup) {m : Str × Addr × List Row} (hm : m ∈ ms) {xs : List V} (e : H m.2.1 = some (.lst xs)) {v : V} {r : Row} (hv : RowAt (fun _ => True) tupK H 3 v r) (rok : RowOk 3 false r ∧ NmIn 3 r) :
    Md55 G (upd H m.2.1 (.lst (xs ++ [v]))) D (ms.map fun x => if x.1 = m.1 then (x.1, x.2.1, x.2.2 ++ [r]) else x) := by
  have t : ∀ b ys, H b = some (.tup ys) → (upd H m.2.1 (.lst (xs ++ [v]))) b = some (.tup ys) := fun b ys e2 => by
    rw [upd_ne fun z => ?_]
    · exact e2
    · rw [z, e] at e2; cases e2
  have e1 : ∀ (f : Str × Addr × List Row → Key × V) (g : ∀ x r', f (x.1, x.2.1, r') = f x), (ms.map fun x => if x.1 = m.1 then (x.1, x.2.1, x.2.2 ++ [r]) else x).map f = ms.map f := fun f g => by
    rw [List.map_map]
    refine List.map_congr_left fun x _ => ?_
    show f (if _ then _ else _) = f x
    split
    · exact g x _
    · rfl
  have e2 : (ms.map fun x => if x.1 = m.1 then (x.1, x.2.1, x.2.2 ++ [r]) else x).map (·.2.1) = ms.map (·.2.1) := by
    rw [List.map_map]
    refine List.map_congr_left fun x _ => ?_
    show (if _ then _ else _ : Str × Addr × List Row).2.1 = _
    split <;> rfl
  refine ⟨?_, by rw [e2]; exact h.nd, fun x hx => ?_, fun x hx => ?_⟩
  · rw [e1 _ fun _ _ => rfl, upd_ne fun z => ?_]
    · exact h.d
    · have := h.d; rw [z, e] at this; cases this
  · obtain ⟨y, hy, rfl⟩ := List.mem_map.mp hx
    obtain ⟨n, ys, e3, p⟩ := h.at_ y hy
    by_cases c : y.1 = m.1
    · have : y = m := by
        obtain ⟨i, hi, ei⟩ := List.mem_iff_getElem.mp hy
        obtain ⟨j, hj, ej⟩ := List.mem_iff_getElem.mp hm
        have := nd_ix ndk (i := i) (j := j) (x := m.1) (by rw [List.getElem?_map, List.getElem?_eq_getElem hi, ei]; exact congrArg some c) (by rw [List.getElem?_map, List.getElem?_eq_getElem hj, ej]; rfl)
        subst this
        rw [← ei, ← ej]
      subst this
      rw [if_pos rfl]
      rw [e] at e3
      cases e3
      exact ⟨n, _, upd_same, paired_app (RowAt.tups t 3 _ _ hv) (paired_imp p fun v r q => RowAt.tups t 3 v r q)⟩
    · rw [if_neg c]
      have ne : y.2.1 ≠ m.2.1 := fun z => by
        obtain ⟨i, hi, ei⟩ := List.mem_iff_getElem.mp hy
        obtain ⟨j, hj, ej⟩ := List.mem_iff_getElem.mp hm
        have := nd_ix h.nd (i := i) (j := j) (x := m.2.1) (by rw [List.getElem?_map, List.getElem?_eq_getElem hi, ei]; exact congrArg some z) (by rw [List.getElem?_map, List.getElem?_eq_getElem hj, ej]; rfl)
        subst this
        exact c (by rw [← ei, ← ej])
      exact ⟨n, ys, by rw [upd_ne ne]; exact e3, paired_imp p fun v r q => RowAt.tups t 3 v r q⟩
  · obtain ⟨y, hy, rfl⟩ := List.mem_map.mp hx
    obtain ⟨k1, k2⟩ := h.ok y hy
    split
    · exact ⟨k1, fun r' hr' => (List.mem_append.mp hr').elim (k2 r') fun z => List.mem_singleton.mp z ▸ rok⟩
    · exact ⟨k1, k2⟩
/-- the modules while they are made: R is the list of pairs -/
structure Mm55 (G H : Hp) (R : Addr) (ms : M55) : Prop where
  nd : (ms.map (·.2.1)).Nodup
  at_ : ∀ m ∈ ms, G m.2.1 = none ∧ m.2.1 ≠ R ∧ ∃ xs, H m.2.1 = some (.lst xs) ∧ Paired (RowAt (fun _ => True) tupK H 3) xs m.2.2
  ok : ∀ m ∈ ms, m.1 ∈ nw55 ∧ ∀ r ∈ m.2.2, RowOk 3 false r ∧ NmIn 3 r
theorem Mm55.same {G H H' : Hp} {R : Addr} {ms : M55} (h : Mm55 G H R ms) (s : Same H H') : Mm55 G H' R ms := ⟨h.nd, fun m hm => by
  obtain ⟨n, n2, xs, e, p⟩ := h.at_ m hm
  exact ⟨n, n2, xs, s _ _ e, paired_imp p fun v r q => q.to (Keep.fr (Fr.same s) fun _ k => k)⟩, h.ok⟩
def putR55 : Row := .plain "put" [.str "x", .int 1]
theorem Mm55.add {G H : Hp} {R : Addr} {ms : M55} {ys zs : List V} {m t : Addr} {z : Str} (h : Mm55 G H R ms) (hR : H R = some (.lst ys)) (mR : m ≠ R) (ma : G m = none) (hm : H m = some (.lst [.ref t])) (ht : H t = some (.tup [.str "put", .str "x", .int 1])) (hz : z ∈ nw55) (ne : ∀ x ∈ ms, x.2.1 ≠ m) :
    Mm55 G (upd H R (.lst zs)) R (ms ++ [(z, m, [putR55])]) := by
  have kt : ∀ b xs, H b = some (.tup xs) → (upd H R (.lst zs)) b = some (.tup xs) := fun b xs e => by
    rw [upd_ne fun z => ?_]
    · exact e
    · rw [z, hR] at e; cases e
  refine ⟨?_, fun x hx => ?_, fun x hx => ?_⟩
  · rw [List.map_append, List.nodup_append]
    exact ⟨h.nd, List.nodup_cons.mpr ⟨(fun z => nomatch z), List.nodup_nil⟩, fun x hx y hy e => by
      obtain ⟨q, hq, rfl⟩ := List.mem_map.mp hx
      exact ne q hq (e.trans (List.mem_singleton.mp hy))⟩
  · rcases List.mem_append.mp hx with k | k
    · obtain ⟨n, n2, xs, e, p⟩ := h.at_ x k
      exact ⟨n, n2, xs, by rw [upd_ne n2]; exact e, paired_imp p fun v r q => RowAt.tups kt 3 v r q⟩
    · rw [List.mem_singleton.mp k]
      exact ⟨ma, mR, _, by rw [upd_ne mR]; exact hm, .cons ⟨t, false, rfl, trivial, rfl, kt _ _ ht⟩ .nil⟩
  · rcases List.mem_append.mp hx with k | k
    · exact h.ok x k
    · rw [List.mem_singleton.mp k]
      refine ⟨hz, fun r hr => ?_⟩
      rw [List.mem_singleton.mp hr]
      exact ⟨⟨[true, false], by unfold plainT; simp, .cons (by decide +kernel) (.cons (by decide +kernel) .nil), fun z => nomatch z⟩, .plain fun o ho => by
        have : own1 (.plain "put" [.str "x", .int 1]) = [] := by decide +kernel
        rw [this] at ho; cases ho⟩
def Mt55 (H : Hp) (t : Addr) (m : Str × Addr × List Row) : Prop := H t = some (.tup [.str m.1, .ref m.2.1])
theorem app_keys (ms : M55) (z : Str) (r : Row) : (ms.map fun x => if x.1 = z then (x.1, x.2.1, x.2.2 ++ [r]) else x).map (·.1) = ms.map (·.1) := by
  rw [List.map_map]
  refine List.map_congr_left fun x _ => ?_
  show (if _ then _ else _ : Str × Addr × List Row).1 = _
  split <;> rfl
theorem app_len {ms : M55} {z : Str} {r : Row} {n : Nat} (h : ∀ m ∈ ms, m.2.2.length ≤ n) : ∀ m ∈ (ms.map fun x => if x.1 = z then (x.1, x.2.1, x.2.2 ++ [r]) else x), m.2.2.length ≤ n + 1 := fun m hm => by
  obtain ⟨y, hy, rfl⟩ := List.mem_map.mp hm
  have := h y hy
  split
  · show (y.2.2 ++ [r]).length ≤ n + 1
    rw [List.length_append, List.length_singleton]; omega
  · omega
def wss55 : List (List Str) := [["a"], ["b", "a"], ["a", "b", "c"], ["d", "b", "c", "a"], ["zz", "m", "a", "lib"]]
theorem wss55_ok {ws : List Str} (h : ws ∈ wss55) : ws.Nodup ∧ (∀ z ∈ ws, isW z = true ∧ z ∈ nw55) ∧ ws.length ≤ 4 ∧ ws ≠ [] := by
  have : wss55.all (fun ws => decide (ws.Nodup) && (ws.all (fun z => isW z && decide (z ∈ nw55)) && (decide (ws.length ≤ 4) && !ws.isEmpty))) = true := by decide +kernel
  have h := List.all_eq_true.mp this ws h
  simp only [Bool.and_eq_true, decide_eq_true_eq, List.all_eq_true, Bool.not_eq_true', List.isEmpty_eq_false_iff] at h
  exact ⟨h.1, h.2.1, h.2.2.1, h.2.2.2⟩
def ringsT (rs : List (List Str)) : DT := .sq true (rs.map fun r => .sq true (r.map fun z => .at (.str z)))
theorem rings_dt {O : Addr → Prop} {H : Hp} {L : Addr} {us : List V} {rs : List (List Str)} (h : H L = some (.lst us)) (p : Paired (RgAt O H) us rs) (l1 : rs.length ≤ 100) (l2 : ∀ r ∈ rs, r.length ≤ 100) : DtAt H 3 (.ref L) (ringsT rs) := by
  refine ⟨L, us, rfl, h, by rw [List.length_map]; omega, ?_⟩
  have strs_ : ∀ r : List Str, Paired (DtAt H 1) (r.map V.str) (r.map fun z => DT.at (.str z)) := by
    intro r
    induction r with
    | nil => exact .nil
    | cons z r ih => exact .cons (dtAt_at rfl) ih
  clear h l1
  induction p with
  | nil => exact .nil
  | cons r t ih =>
    obtain ⟨b, e, _, h⟩ := r
    exact .cons ⟨b, _, e, h, by rw [List.length_map]; have := l2 _ (List.mem_cons_self ..); omega, strs_ _⟩ (ih fun r hr => l2 r (by simp [hr]))
theorem rings55_len {lib : Lib} {ws : List Str} : (rings55 lib ws).length ≤ ws.length ∧ ∀ r ∈ rings55 lib ws, r.length ≤ ws.length ∧ ∀ z ∈ r, z ∈ ws := by
  unfold rings55
  refine ⟨?_, fun r hr => ?_⟩
  · rw [List.length_mergeSort]
    have := once_len (ws.map (ring55 lib ws))
    rw [List.length_map] at this
    exact this
  · have hr := (List.mergeSort_perm _ _).mem_iff.mp hr
    obtain ⟨h1, _⟩ := (once_mem _ r).mp hr
    obtain ⟨m, _, rfl⟩ := List.mem_map.mp h1
    exact ⟨ring55_len, fun z hz => ring55_sub hz⟩
section
variable {P : Program} {w : World} {K : PySem.W.Frag} {mg : Str → Option Value} {base : Heap}
theorem libR_of55 {lib : Lib} (h : LibOk lib) (hp : 0 < lib.length) : LibR lib := ⟨by have := h.few; omega, hp, h.nd, h.word, h.len, h.rows⟩
theorem valM55 {ms : M55} (nk : (ms.map (·.1)).Nodup) {m : Str × Addr × List Row} (hm : m ∈ ms) : valV (ms.map fun m => ((Sum.inr m.1 : Key), V.ref m.2.1)) (Sum.inr m.1) = some (.ref m.2.1) := by
  obtain ⟨i, hi, e⟩ := List.mem_iff_getElem.mp hm
  refine valV_at (i := i) ?_ ?_
  · rw [List.map_map]
    exact (show (ms.map fun m => (Sum.inr m.1 : Key)) = (ms.map (·.1)).map Sum.inr by rw [List.map_map]; rfl) ▸ (List.Pairwise.map Sum.inr (fun a b ne h => ne (Sum.inr.inj h)) nk)
  · rw [List.getElem?_map, List.getElem?_eq_getElem hi, e]; rfl
theorem mk_prog55 {C : Addr} {te : TE} {σ : L2.St} {H : Hp} {Q : VK} {lib : Lib} (lr : LibR lib) (h : ∀ Q' : VK, (∀ H' dm kvs, Same H H' → H' dm = some (.dK kvs) → LibAt (fun y => H' y ≠ none) mixK H' kvs lib → Q' (.ref dm) H') → te σ H Q')
    (q : ∀ H' px rd kvs lib2, Same H H' → Prog55 H' C px rd kvs lib2 → lib2.Perm lib → Q (.ref px) H') : tMake C (spProgramInit C) [] E0 (tCons te tNil) σ H Q := by
  refine h _ fun H1 dm kvs s1 hdm hlib => ?_
  refine fun x dx nx ndx xdx => ?_
  have sI : Same H1 (upd (upd H1 dx (.own x)) x (.ins C dx [])) := fun b o e => by
    rw [upd_ne (ne_of_none e nx), upd_ne (ne_of_none e ndx)]; exact e
  refine ⟨x, dx, dm, kvs, lib, (fun y => H1 y ≠ none), mixK, rfl, upd_same, sI _ _ hdm, hlib.to (Keep.fr (Fr.same sI) fun _ k => k), fun z => z nx, lr, fun H4 rd sl lib4 fr4 prog perm4 sort4 nrd nsl => ⟨rfl, ?_⟩⟩
  have s14 : Same H1 H4 := fun b o e => fr4 _ _ (ne_of_none e nx) (sI _ _ e)
  obtain ⟨kvs4, hrd4, hlib4⟩ := prog.rows
  exact q H4 x rd kvs4 lib4 (Same.trans s1 s14) ⟨⟨_, _, prog.ins⟩, hrd4, hlib4.to (Keep.mono fun _ _ _ => trivial), libR_perm perm4 lr⟩ perm4
def Wr55 (te : TE) (r : Row) : Prop := ∀ σ H (Q : VK), (∀ H' v, Same H H' → RowAt (fun y => H' y ≠ none) mixK H' 3 v r → Q v H') → te σ H Q
def Wrs55 (t : TA) (rs : List Row) : Prop := ∀ σ H (Q : List V → Hp → Prop), (∀ H' vs, Same H H' → Paired (RowAt (fun y => H' y ≠ none) mixK H' 3) vs rs → Q vs H') → t σ H Q
def Wes55 (ts : List (TE × TE)) (lib : Lib) : Prop := ∀ σ H (Q : List (V × V) → Hp → Prop), (∀ H' kvs, Same H H' → LibAt (fun y => H' y ≠ none) mixK H' kvs lib → Q (kvs.map fun kv => (kV kv.1, kv.2)) H') → tPairs ts σ H Q
theorem nn55 {H H' : Hp} (s : Same H H') : Keep (fun y => H y ≠ none) (fun y => H' y ≠ none) H H' := Keep.fr (Fr.same s) fun y k z => by
  cases e : H y with
  | none => exact k e
  | some o => rw [s _ _ e] at z; cases z
theorem wr55 {t : TA} {w : Str} {fs : List V} (h : ∀ σ H (Q : List V → Hp → Prop), Q (.str w :: fs) H → t σ H Q) (l : fs.length ≤ 10 := by decide) : Wr55 (tTup t) (.plain w fs) := fun σ H Q q =>
  h σ H _ ⟨smallE (by rw [List.length_cons]; omega), fun p np => q _ _ (Same.new np) ⟨p, false, rfl, (by show (upd H p _) p ≠ none; rw [upd_same]; exact fun z => nomatch z), (fun _ => rfl), upd_same⟩⟩
theorem wrsN : Wrs55 tNil [] := fun σ H Q q => q H [] (Same.refl _) .nil
theorem wrsC {te : TE} {t : TA} {r : Row} {rs : List Row} (h : Wr55 te r) (h2 : Wrs55 t rs) : Wrs55 (tCons te t) (r :: rs) := fun σ H Q q =>
  h σ H _ fun H1 v s1 hv => h2 σ H1 _ fun H2 vs s2 hvs => q H2 (v :: vs) (Same.trans s1 s2) (.cons (hv.to (nn55 s2)) hvs)
theorem wesN : Wes55 [] [] := fun σ H Q q => q H [] (Same.refl _) .nil
theorem wesC {z : Str} {t : TA} {rs : List Row} {ts : List (TE × TE)} {lib : Lib} (h : Wrs55 t rs) (l : rs.length ≤ 10) (h2 : Wes55 ts lib) : Wes55 ((tC (.str z), tLst t) :: ts) ((z, rs) :: lib) := fun σ H Q q =>
  h σ H _ fun H1 vs s1 hvs => ⟨smallE (by rw [paired_len hvs]; omega), fun p np => by
    have s2 : Same H1 (upd H1 p (.lst vs)) := Same.new np
    have hp : (upd H1 p (.lst vs)) p = some (.lst vs) := upd_same
    generalize upd H1 p _ = H2 at *
    have rows : RowsAt (fun y => H2 y ≠ none) mixK H2 3 (.ref p) rs := ⟨vs, ⟨p, true, rfl, (by show H2 p ≠ none; rw [hp]; exact fun z => nomatch z), (fun z => nomatch z), hp⟩, paired_imp hvs fun v r q => q.to (nn55 s2)⟩
    exact h2 σ H2 _ fun H3 kvs s3 hl => q H3 ((Sum.inr z, .ref p) :: kvs) (Same.trans (Same.trans s1 s2) s3) (.cons ⟨rfl, rows.to (nn55 s3)⟩ hl)⟩
theorem wd55 {ts : List (TE × TE)} {lib : Lib} (h : Wes55 ts lib) (l : lib.length ≤ 4) (nd : (lib.map (·.1)).Nodup) {σ : L2.St} {H : Hp} {Q : VK} (q : ∀ H' dm kvs, Same H H' → H' dm = some (.dK kvs) → LibAt (fun y => H' y ≠ none) mixK H' kvs lib → Q (.ref dm) H') : tDisp ts σ H Q := fun p np =>
  h σ _ _ fun H1 kvs s1 hl => by
    have sp : Same H (upd H p (.dK [])) := Same.new np
    have hp := s1 p _ (upd_same : (upd H p (.dK [])) p = _)
    refine ⟨hp, kvs, rfl, by rw [libAt_len hl]; omega, ?_⟩
    rw [mergeK_nd55 (by rw [List.nil_append, libAt_keys hl]; exact List.Pairwise.map Sum.inr (fun a b ne h => ne (Sum.inr.inj h)) nd), List.nil_append]
    have s2 : Same H (upd H1 p (.dK kvs)) := Same.upN (Same.trans sp s1) np
    refine q _ p kvs s2 upd_same (hl.to fun x kd xs k e => ?_)
    have ne : x ≠ p := fun z => by rw [z, hp] at e; cases kd <;> cases e
    rw [upd_ne ne]
    exact ⟨k, e⟩
theorem libR_c55 {lib : Lib} (h : (decide (lib.length ≤ 4) && (decide (0 < lib.length) && (decide ((lib.map (·.1)).Nodup) && (lib.all fun m => isW m.1 && (decide (m.2.length ≤ 24) && m.2.all (rowOkB 3 false)))))) = true) : LibR lib := by
  simp only [Bool.and_eq_true, decide_eq_true_eq, List.all_eq_true] at h
  exact ⟨by omega, h.2.1, h.2.2.1, fun m hm => (h.2.2.2 m hm).1, fun m hm => (h.2.2.2 m hm).2.1, fun m hm r hr => rowOkB_ok ((h.2.2.2 m hm).2.2 r hr)⟩
theorem prog55_mid {C : Addr} {te : TE} {σ : L2.St} {H : Hp} {Q : VK} {lib : Lib} (lr : LibR lib) (h : ∀ Q' : VK, (∀ H' dm kvs, Same H H' → H' dm = some (.dK kvs) → LibAt (fun y => H' y ≠ none) mixK H' kvs lib → Q' (.ref dm) H') → te σ H Q')
    (q : ∀ H' px rd kvs lib2, Same H H' → Prog55 H' C px rd kvs lib2 → lib2.Perm lib → Q (.ref px) H') : tMid (tMake C (spProgramInit C) [] E0 (tCons te tNil)) σ H Q :=
  ⟨fun v H' => ∃ px rd kvs lib2, v = .ref px ∧ Same H H' ∧ Prog55 H' C px rd kvs lib2 ∧ lib2.Perm lib, mk_prog55 lr h fun H6 px rd kvs lib2 s6 pr pm => ⟨px, rd, kvs, lib2, rfl, s6, pr, pm⟩, fun v H' ⟨px, rd, kvs, lib2, e, s, pr, pm⟩ => by rw [e]; exact q H' px rd kvs lib2 s pr pm⟩
theorem wrF1 : Wes55 [(tC (.str "a"), tLst tNil)] libF1 := wesC wrsN (by decide) wesN
abbrev sLaw : Stmt := topS 41
theorem scLaw : FnScope ["_law_script", "_law_turn", "_law_source_here", "_law_words", "_law_modules", "_law_word", "_law_k", "_law_program", "_law_due", "_law_again", "_law_found"] ["_law_script"] (defScope sLaw) := ⟨rfl, rfl, rfl, by decide +kernel, rfl, by decide +kernel, by decide +kernel⟩
def spLaw (K : PySem.W.Frag) : Sp := fun vs H Q _ => ∃ (a : Addr) (ns : List Int), vs = [.ref a] ∧ SqL K H a (ns.map V.int) ∧ ∀ H', Q (.bl true) H'
theorem ok_law {f C : Addr} {fd : FuncData} {k : Nat} (F : Fun K "law" "law" sLaw f fd) (B : Bl mg) (hk : 20 ≤ k) (gLSource : Own P w K mg base 2 "_law_source" ["_law_script", "_law_k"] (spLSource K)) (gLDraw : Own P w K mg base 2 "_law_draw" ["_law_source_here", "_law_many"] spLDraw) (gLPick : Own P w K mg base 3 "_law_pick" ["_law_source_here", "_law_some"] spLPick)
    (gLSomeImport : Own P w K mg base 4 "_law_some_import" ["_law_source_here", "_law_words"] spSomeImport) (gProgram : OwnC P w K mg base 10 "Program" C ["self", "modules"] (spProgramInit C)) (gLRings : Own P w K mg base 8 "_law_rings" ["_law_modules"] spLRings) (gRings : Own P w K mg base 8 "rings" ["program"] (spRings C))
    (gLSame : Own P w K mg base 8 "_law_same" ["_law_found", "_law_due"] (spLSame 3)) : FnOk P w K mg base CX0 (k + 1) f fd ["_law_script"] (spLaw K) := by
  refine F.ok scLaw (fun vs H Q E h => ?_) (fun cdv A outer s H vs Q E hr h => ?_)
  · obtain ⟨a, ns, rfl, _⟩ := h
    rfl
  obtain ⟨p, ns, rfl, hS, q⟩ := h
  refine ⟨_, (pss_cons (ps_for PassesOwn.never rfl (pi_range1 (by rfl) B.range (pa_cons (pe_callB (call_max2 rfl) (by rfl) B.max (by decide +kernel) (pa_cons pe_int (pa_cons (pe_callB (call_min2 rfl) (by rfl) B.min (by decide +kernel) (pa_cons pe_int (pa_cons (pe_callB call_len_seq (by rfl) B.len (by decide +kernel) (pa_cons (pv 0) pa_nil)) pa_nil))) pa_nil))) pa_nil)) (pg_name (i := 1) scLaw.nd rfl (by first | exact Or.inl rfl | exact Or.inr rfl)) (pss_cut (ps_set (i := 2) scLaw.nd rfl (by first | exact Or.inl rfl | exact Or.inr rfl) (pe_own gLSource (hr.mono (by omega)) (by rfl) (pa_cons (pv 0) (pa_cons (pv 1) pa_nil))))
      (pss_cut (ps_set (i := 3) scLaw.nd rfl (by first | exact Or.inl rfl | exact Or.inr rfl) (pe_own gLPick (hr.mono (by omega)) (by rfl) (pa_cons (pv 2) (pa_cons (pe_lst (pa_cons (pe_lst (pa_cons pe_str pa_nil)) (pa_cons (pe_lst (pa_cons pe_str (pa_cons pe_str pa_nil))) (pa_cons (pe_lst (pa_cons pe_str (pa_cons pe_str (pa_cons pe_str pa_nil)))) (pa_cons (pe_lst (pa_cons pe_str (pa_cons pe_str (pa_cons pe_str (pa_cons pe_str pa_nil))))) (pa_cons (pe_lst (pa_cons pe_str (pa_cons pe_str (pa_cons pe_str (pa_cons pe_str pa_nil))))) pa_nil)))))) pa_nil))))
      (pss_cut (ps_set (i := 4) scLaw.nd rfl (by first | exact Or.inl rfl | exact Or.inr rfl) (pe_callTy (call_dictP rfl) (by rfl) B.dict (by decide +kernel) (pa_cons (pe_lc (own := [("_law_word", 5)]) (g := (gName 5)) (tt := tYes) (by rfl) scLaw.nd (pi_list (pv 3)) (blkOk_by (own := [("_law_word", 5)]) (N := ["_law_script", "_law_turn", "_law_source_here", "_law_words", "_law_modules", "_law_word", "_law_k", "_law_program", "_law_due", "_law_again", "_law_found"]) (sc := defScope sLaw) (by decide +kernel)) (fun _ _ _ _ _ => (pg_name (i := 5) scLaw.nd rfl (by first | exact Or.inl rfl | exact Or.inr rfl))) (fun _ _ _ _ _ => pts_nil) (fun _ _ _ _ _ => (pe_tup (pa_cons (pv 5) (pa_cons (pe_lst (pa_cons (pe_tup (pa_cons pe_str (pa_cons pe_str (pa_cons pe_int pa_nil)))) pa_nil)) pa_nil))))) pa_nil)))
      (pss_cons (ps_for PassesOwn.never rfl (pi_range1 (by rfl) B.range (pa_cons (pe_own gLDraw (hr.mono (by omega)) (by rfl) (pa_cons (pv 2) (pa_cons pe_int pa_nil))) pa_nil)) (pg_name (i := 6) scLaw.nd rfl (by first | exact Or.inl rfl | exact Or.inr rfl)) (pss_one (ps_expr (pe_bm PySem.F.plainAttrs_list PySem.F.slot_list_append PySem.F.type_list_append mt_append (pe_dget (hu_of hr) (pv 4) (pe_own gLPick (hr.mono (by omega)) (by rfl) (pa_cons (pv 2) (pa_cons (pv 3) pa_nil))) (fun _ _ => rfl)) (pa_cons (pe_own gLSomeImport (hr.mono (by omega)) (by rfl) (pa_cons (pv 2) (pa_cons (pv 3) pa_nil))) pa_nil)))))
      (pss_cut (ps_par (i := 7) (j := 8) (by rfl) scLaw.nd rfl rfl (by decide) rfl rfl (pa_cons (pe_mid (pe_new gProgram (hr.mono (by omega)) (by rfl) (pa_cons (pv 4) pa_nil))) (pa_cons (pe_own gLRings (hr.mono (by omega)) (by rfl) (pa_cons (pv 4) pa_nil)) pa_nil)) (by rfl))
      (pss_one (ps_for PassesOwn.never rfl (pi_range1 (by rfl) B.range (pa_cons pe_int pa_nil)) (pg_name (i := 9) scLaw.nd rfl (by first | exact Or.inl rfl | exact Or.inr rfl)) (pss_cons (ps_set (i := 10) scLaw.nd rfl (by first | exact Or.inl rfl | exact Or.inr rfl) (pe_own gRings (hr.mono (by omega)) (by rfl) (pa_cons (pv 7) pa_nil)))
      (pss_cons (ps_if (pt_not (pt_val (pe_own gLSame (hr.mono (by omega)) (by rfl) (pa_cons (pv 10) (pa_cons (pv 8) pa_nil))))) (pss_one (ps_ret pe_bl)) pss_nil)
      (pss_cons (ps_expr (pe_bm PySem.F.plainAttrs_list PySem.F.slot_list_append PySem.F.type_list_append mt_append (pv 10) (pa_cons (pe_lst (pa_cons pe_str pa_nil)) pa_nil)))
      (pss_one (ps_expr (pe_bm PySem.F.plainAttrs_list PySem.F.slot_list_append PySem.F.type_list_append mt_append (pe_ix ix_list (pv 10) pe_int (fun _ _ => rfl)) (pa_cons pe_str pa_nil)))))))))))))))
      (pss_cut (ps_set (i := 4) scLaw.nd rfl (by first | exact Or.inl rfl | exact Or.inr rfl) (pe_disp (pps_cons pe_str (pe_lst (pa_cons (pe_tup (pa_cons pe_str (pa_cons pe_str (pa_cons pe_str pa_nil)))) (pa_cons (pe_tup (pa_cons pe_str (pa_cons pe_str (pa_cons pe_str (pa_cons pe_str pa_nil))))) (pa_cons (pe_tup (pa_cons pe_str (pa_cons pe_str (pa_cons pe_str pa_nil)))) pa_nil)))) (pps_cons pe_str (pe_lst (pa_cons (pe_tup (pa_cons pe_str (pa_cons pe_str (pa_cons pe_str pa_nil)))) pa_nil)) pps_nil)) (by rfl) (by rfl) (fun z => by cases z) (by decide)))
      (pss_cons (ps_if (PW.pt (pw_or (pt_cmpR (op_neD hr.units) (pe_own gRings (hr.mono (by omega)) (by rfl) (pa_cons (pe_mid (pe_new gProgram (hr.mono (by omega)) (by rfl) (pa_cons (pe_disp (pps_cons pe_str (pe_lst pa_nil) pps_nil) (by rfl) (by rfl) (fun z => by cases z) (by decide)) pa_nil))) pa_nil)) (pe_lst pa_nil) (nomark _)) (pw_or1 (pt_cmpR (op_neD hr.units) (pe_own gRings (hr.mono (by omega)) (by rfl) (pa_cons (pe_mid (pe_new gProgram (hr.mono (by omega)) (by rfl) (pa_cons (pv 4) pa_nil))) pa_nil)) (pe_lst pa_nil) (nomark _))))) (pss_one (ps_ret pe_bl)) pss_nil)
      (pss_cut (ps_set (i := 4) scLaw.nd rfl (by first | exact Or.inl rfl | exact Or.inr rfl) (pe_disp (pps_cons pe_str (pe_lst (pa_cons (pe_tup (pa_cons pe_str (pa_cons pe_str (pa_cons pe_str pa_nil)))) pa_nil)) (pps_cons pe_str (pe_lst (pa_cons (pe_tup (pa_cons pe_str (pa_cons pe_str (pa_cons pe_str pa_nil)))) pa_nil)) (pps_cons pe_str (pe_lst (pa_cons (pe_tup (pa_cons pe_str (pa_cons pe_str (pa_cons pe_str (pa_cons pe_str pa_nil))))) pa_nil)) pps_nil))) (by rfl) (by rfl) (fun z => by cases z) (by decide)))
      (pss_one (ps_ret (pe_and (pe_cmpR (op_eqD hr.units) (pe_own gRings (hr.mono (by omega)) (by rfl) (pa_cons (pe_mid (pe_new gProgram (hr.mono (by omega)) (by rfl) (pa_cons (pe_disp (pps_cons pe_str (pe_lst (pa_cons (pe_tup (pa_cons pe_str (pa_cons pe_str (pa_cons pe_str pa_nil)))) pa_nil)) pps_nil) (by rfl) (by rfl) (fun z => by cases z) (by decide)) pa_nil))) pa_nil)) (pe_lst (pa_cons (pe_lst (pa_cons pe_str pa_nil)) pa_nil)) (nomark _)) (pe_one (pe_cmpR (op_eqD hr.units) (pe_own gRings (hr.mono (by omega)) (by rfl) (pa_cons (pe_mid (pe_new gProgram (hr.mono (by omega)) (by rfl) (pa_cons (pv 4) pa_nil))) pa_nil)) (pe_lst (pa_cons (pe_lst (pa_cons pe_str (pa_cons pe_str pa_nil))) (pa_cons (pe_lst (pa_cons pe_str pa_nil)) pa_nil))) (nomark _)))))))))), ?_⟩
  have hl : (ns.map V.int).length = ns.length := List.length_map _
  refine ⟨_, rfl, p, _, rfl, .inl hS, 10, _, rfl, 4, _, rfl, _, rfl, ?_, ?_, ?_⟩
  · split <;> split <;> omega
  · split <;> split <;> omega
  have nle : (if (if (((ns.map V.int).length : Nat) : Int) < 10 then (((ns.map V.int).length : Nat) : Int) else 10) > 4 then (if (((ns.map V.int).length : Nat) : Int) < 10 then (((ns.map V.int).length : Nat) : Int) else 10) else 4) ≤ 10 := by split <;> split <;> omega
  generalize (if (if (((ns.map V.int).length : Nat) : Int) < 10 then (((ns.map V.int).length : Nat) : Int) else 10) > 4 then (if (((ns.map V.int).length : Nat) : Int) < 10 then (((ns.map V.int).length : Nat) : Int) else 10) else 4) = N at *
  refine for_it (walk_range (lo := 0) (n := N.toNat)) (fun i σ H' => Same H H' ∧ ∃ v1 v2 v3 v4 v5 v6 v7 v8 v9 v10, σ = [some (.ref p), v1, v2, v3, v4, v5, v6, v7, v8, v9, v10])
    ⟨Same.refl H, _, _, _, _, _, _, _, _, _, _, rfl⟩ (fun _ _ _ _ _ => trivial) ?_ ?_
  · rintro i x σ H0 G0 hi ⟨sH, v1, v2, v3, v4, v5, v6, v7, v8, v9, v10, rfl⟩ ⟨rfl, rfl⟩
    refine ⟨fun σ H' => ∃ a, σ = [some (.ref p), some (.int (0 + i)), some (.ref a), v3, v4, v5, v6, v7, v8, v9, v10] ∧ Same G0 H' ∧ G0 a = none ∧ Src H' a 0, ?_, ?_⟩
    · exact ⟨_, rfl, _, rfl, p, ns, _, rfl, Same.seq sH hS, by omega, by omega, fun H1 a s1 na sr => ⟨a, rfl, s1, na, sr⟩⟩
    rintro σ H1 ⟨a, rfl, s1, na, sr1⟩
    -- the words
    refine ⟨fun σ H' => ∃ l ws, σ = [some (.ref p), some (.int (0 + i)), some (.ref a), some (.ref l), v4, v5, v6, v7, v8, v9, v10] ∧ Fr (· ≠ a) H1 H' ∧ Src H' a 1 ∧ l ≠ a ∧ H' l = some (.lst (ws.map V.str)) ∧ ws ∈ wss55, ?_, ?_⟩
    · have f1 : ∀ {G : Hp}, Same H1 G → Src G a 0 := fun s => sr1.fr (Fr.same (ok := fun _ => True) s) trivial
      refine ⟨_, rfl, (by show 1 ≤ sizeLine; decide), fun l1 nl1 => ?_⟩
      generalize hE_l1 : upd H1 l1 _ = L1
      have s_l1 : Same H1 L1 := by rw [← hE_l1]; exact Same.new nl1
      have h_l1 : L1 l1 = some (.lst ((["a"] : List Str).map V.str)) := by rw [← hE_l1]; exact upd_same
      refine ⟨(by show 2 ≤ sizeLine; decide), fun l2 nl2 => ?_⟩
      generalize hE_l2 : upd L1 l2 _ = L2
      have s_l2 : Same L1 L2 := by rw [← hE_l2]; exact Same.new nl2
      have h_l2 : L2 l2 = some (.lst ((["b", "a"] : List Str).map V.str)) := by rw [← hE_l2]; exact upd_same
      refine ⟨(by show 3 ≤ sizeLine; decide), fun l3 nl3 => ?_⟩
      generalize hE_l3 : upd L2 l3 _ = L3
      have s_l3 : Same L2 L3 := by rw [← hE_l3]; exact Same.new nl3
      have h_l3 : L3 l3 = some (.lst ((["a", "b", "c"] : List Str).map V.str)) := by rw [← hE_l3]; exact upd_same
      refine ⟨(by show 4 ≤ sizeLine; decide), fun l4 nl4 => ?_⟩
      generalize hE_l4 : upd L3 l4 _ = L4
      have s_l4 : Same L3 L4 := by rw [← hE_l4]; exact Same.new nl4
      have h_l4 : L4 l4 = some (.lst ((["d", "b", "c", "a"] : List Str).map V.str)) := by rw [← hE_l4]; exact upd_same
      refine ⟨(by show 4 ≤ sizeLine; decide), fun l5 nl5 => ?_⟩
      generalize hE_l5 : upd L4 l5 _ = L5
      have s_l5 : Same L4 L5 := by rw [← hE_l5]; exact Same.new nl5
      have h_l5 : L5 l5 = some (.lst ((["zz", "m", "a", "lib"] : List Str).map V.str)) := by rw [← hE_l5]; exact upd_same
      refine ⟨(by show 5 ≤ sizeLine; decide), fun l6 nl6 => ?_⟩
      generalize hE_l6 : upd L5 l6 _ = L6
      have s_l6 : Same L5 L6 := by rw [← hE_l6]; exact Same.new nl6
      have h_l6 : L6 l6 = some (.lst [.ref l1, .ref l2, .ref l3, .ref l4, .ref l5]) := by rw [← hE_l6]; exact upd_same
      have a5 := s_l6
      have a4 := Same.trans s_l5 a5
      have a3 := Same.trans s_l4 a4
      have a2 := Same.trans s_l3 a3
      have a1 := Same.trans s_l2 a2
      have a0 := Same.trans s_l1 a1
      have c2 := Same.trans s_l1 s_l2
      have c3 := Same.trans c2 s_l3
      have c4 := Same.trans c3 s_l4
      have c5 := Same.trans c4 s_l5
      refine ⟨a, l6, _, 0, rfl, f1 a0, by decide, (f1 c5).nn nl6, h_l6, by simp, (by show 5 < 1000000; decide), fun G x fG sG hx => ?_⟩
      have fin : Fr (· ≠ a) H1 G := (Fr.same a0).trans fG
      have g1 : ∃ l ws, x = .ref l ∧ l ≠ a ∧ G l = some (.lst (ws.map V.str)) ∧ ws ∈ wss55 := by
        simp only [List.mem_cons, List.mem_nil_iff, or_false] at hx
        rcases hx with e | e | e | e | e <;> subst e
        · exact ⟨_, _, rfl, sr1.nn nl1, fG _ _ (sr1.nn nl1) (a1 _ _ h_l1), by unfold wss55; simp⟩
        · exact ⟨_, _, rfl, (f1 s_l1).nn nl2, fG _ _ ((f1 s_l1).nn nl2) (a2 _ _ h_l2), by unfold wss55; simp⟩
        · exact ⟨_, _, rfl, (f1 c2).nn nl3, fG _ _ ((f1 c2).nn nl3) (a3 _ _ h_l3), by unfold wss55; simp⟩
        · exact ⟨_, _, rfl, (f1 c3).nn nl4, fG _ _ ((f1 c3).nn nl4) (a4 _ _ h_l4), by unfold wss55; simp⟩
        · exact ⟨_, _, rfl, (f1 c4).nn nl5, fG _ _ ((f1 c4).nn nl5) (a5 _ _ h_l5), by unfold wss55; simp⟩
      obtain ⟨l, ws, rfl, g2, g3, g4⟩ := g1
      exact ⟨l, ws, rfl, fin, sG, g2, g3, g4⟩
    rintro σ H2 ⟨l, ws, rfl, f12, sr2, la, hl2, hws⟩
    obtain ⟨w1, w2, w3, w4⟩ := wss55_ok hws
    refine ⟨fun σ H' => ∃ D ms, (∃ v5, σ = [some (.ref p), some (.int (0 + i)), some (.ref a), some (.ref l), some (.ref D), v5, v6, v7, v8, v9, v10]) ∧ Same H2 H' ∧ Md55 H2 H' D ms ∧ H2 D = none ∧ ms.map (·.1) = ws ∧ (∀ m ∈ ms, m.2.2.length ≤ 1), ?_, ?_⟩
    · refine ⟨_, rfl, l, rfl, ⟨_, SqL.of hl2⟩, fun R nR => ?_⟩
      refine lc_it (walk_list (xs := ws.map V.str)) (fun j H' => Same H2 H' ∧ ∃ (ts : List Addr) (ms : M55), H' R = some (.lst (ts.map V.ref)) ∧ Paired (Mt55 H') ts ms ∧ Mm55 H2 H' R ms ∧ ms.map (·.1) = ws.take j ∧ (∀ m ∈ ms, m.2.2.length ≤ 1))
        ⟨Same.new nR, [], [], upd_same, .nil, ⟨List.nodup_nil, (fun _ z => nomatch z), (fun _ z => nomatch z)⟩, rfl, fun _ z => nomatch z⟩ (fun j H' _ ⟨sm, _⟩ => SqL.of (sm _ _ hl2)) ?_ ?_
      · rintro j y H3 H4 hj ⟨s3, ts, ms, hR, hts, hms, hk, hln⟩ ⟨rfl, hy⟩
        rw [List.getElem?_map] at hy
        cases em : ws[j]? with
        | none => rw [em] at hy; cases hy
        | some z =>
        rw [em] at hy
        cases Option.some.inj hy
        have zin := List.mem_of_getElem? em
        refine ⟨rfl, _, rfl, (by show 3 ≤ sizeLine; decide), fun t nt => ?_⟩
        generalize hE_t : upd H4 t _ = I1
        have s_t : Same H4 I1 := by rw [← hE_t]; exact Same.new nt
        have h_t : I1 t = some (.tup [.str "put", .str "x", .int 1]) := by rw [← hE_t]; exact upd_same
        refine ⟨(by show 1 ≤ sizeLine; decide), fun m nm => ?_⟩
        generalize hE_m : upd I1 m _ = I2
        have s_m : Same I1 I2 := by rw [← hE_m]; exact Same.new nm
        have h_m : I2 m = some (.lst [.ref t]) := by rw [← hE_m]; exact upd_same
        refine ⟨(by show 2 ≤ sizeLine; decide), fun u nu => ?_⟩
        generalize hE_u : upd I2 u _ = I3
        have s_u : Same I2 I3 := by rw [← hE_u]; exact Same.new nu
        have h_u : I3 u = some (.tup [.str z, .ref m]) := by rw [← hE_u]; exact upd_same
        have s13 := Same.trans (Same.trans s_t s_m) s_u
        have hR3 := s13 _ _ hR
        have lts : ts.length ≤ 4 := by
          have h1 := congrArg List.length hk
          rw [List.length_map, List.length_take] at h1
          have := paired_len hts
          omega
        refine ⟨ts.map V.ref, hR3, small (by rw [List.length_map]; omega), Same.upN (Same.trans s3 s13) nR, ts ++ [u], ms ++ [(z, m, [putR55])], by rw [upd_same, List.map_append]; rfl, ?_, ?_, ?_, ?_⟩
        · have kt : ∀ b xs, I3 b = some (.tup xs) → (upd I3 R (.lst (ts.map V.ref ++ [.ref u]))) b = some (.tup xs) := fun b xs e => by
            rw [upd_ne fun z => ?_]
            · exact e
            · rw [z, hR3] at e; cases e
          exact paired_app (show Mt55 _ _ _ from kt _ _ h_u) (paired_imp hts fun t m (e : Mt55 H4 t m) => show Mt55 _ t m from kt _ _ (s13 _ _ e))
        · exact (hms.same s13).add hR3 (fun e => by have := s_t _ _ hR; rw [← e, nm] at this; cases this) (Same.free (Same.trans s3 s_t) nm) (s_u _ _ h_m) (s_u _ _ (s_m _ _ h_t)) (w2 z zin).2 (fun x hx z => by
            obtain ⟨_, _, _, e, _⟩ := hms.at_ x hx
            have := s_t _ _ e
            rw [z, nm] at this; cases this)
        · rw [List.map_append, hk, List.take_add_one, em]; rfl
        · intro x hx
          rcases List.mem_append.mp hx with h | h
          · exact hln x h
          · rw [List.mem_singleton.mp h]; exact Nat.le_refl 1
      rintro H3 ⟨s3, ts, ms, hR, hts, hms, hk, hln⟩
      rw [List.length_map, List.take_length] at hk
      refine ⟨R, ts, ms.map fun m => (Sum.inr m.1, .ref m.2.1), rfl, SqL.of hR, ?_, fun dr ndr => ?_⟩
      · exact paired_mapR55 hts fun t q (e : Mt55 H3 t q) => SqT.of e
      rw [mergeK_nd55 (by rw [List.nil_append, List.map_map]; exact (show (ms.map fun m => (Sum.inr m.1 : Key)) = (ms.map (·.1)).map Sum.inr by rw [List.map_map]; rfl) ▸ (hk ▸ List.Pairwise.map Sum.inr (fun a b ne h => ne (Sum.inr.inj h)) w1)), List.nil_append]
      have s4 : Same H3 (upd H3 dr (.dK (ms.map fun m => (Sum.inr m.1, .ref m.2.1)))) := Same.new ndr
      have hm4 := hms.same s4
      exact ⟨dr, ms, ⟨_, rfl⟩, Same.trans s3 s4, ⟨upd_same, hm4.nd, fun m hm => by
        obtain ⟨n, _, h⟩ := hm4.at_ m hm
        exact ⟨n, h⟩, hm4.ok⟩, Same.free s3 ndr, hk, hln⟩
    rintro σ H3 ⟨D, ms, ⟨v5, rfl⟩, s23, hM, nD, hms, hlen⟩
    have ga : H2 a ≠ none := by
      obtain ⟨o, e⟩ := sr2.is
      rw [e]; exact fun z => nomatch z
    have sr3 := sr2.fr (Fr.same (ok := fun _ => True) s23) trivial
    refine ⟨_, rfl, a, 6, 1, rfl, sr3, by decide, by decide, by decide, fun H4 kN f4 sr4 k0 k6 => ⟨kN, rfl, by omega, by omega, ?_⟩⟩
    have lstA : ∀ {G : Hp} {n : Int}, Src G a n → ∃ xs, G a = some (.lst xs) := fun ⟨_, _, e, _⟩ => ⟨_, e⟩
    refine for_it (walk_range (lo := 0) (n := kN.toNat)) (fun i2 σ H' => (∃ v5 v6, σ = [some (.ref p), some (.int (0 + i)), some (.ref a), some (.ref l), some (.ref D), v5, v6, v7, v8, v9, v10]) ∧ Fr (· ≠ a) H2 H' ∧ (∃ n, Src H' a n ∧ n ≤ 2 + 4 * (i2 : Int)) ∧ ∃ ms, Md55 H2 H' D ms ∧ ms.map (·.1) = ws ∧ (∀ m ∈ ms, m.2.2.length ≤ 1 + i2))
      ⟨⟨_, _, rfl⟩, (Fr.same s23).trans f4, ⟨_, sr4, by omega⟩, ms, hM.fr f4 ga (lstA sr3), hms, hlen⟩ (fun _ _ _ _ _ => trivial) ?_ ?_
    · rintro i2 x σ H5 H6 hi2 ⟨⟨v5, v6, rfl⟩, f6, ⟨n6, sr6, hn6⟩, ms, hM6, hms6, hlen6⟩ ⟨rfl, rfl⟩
      have hl6 := f6 _ _ la hl2
      refine ⟨_, rfl, _, rfl, _, rfl, a, l, _, _, rfl, sr6, by omega, la, hl6, by simpa using w4, by rw [List.length_map]; omega, fun H7 y f7 sr7 hy => ?_⟩
      obtain ⟨z, hz, rfl⟩ := List.mem_map.mp hy
      have hM7 := hM6.fr f7 ga (lstA sr6)
      have hl7 := f7 _ _ la hl6
      have nk : (ms.map (·.1)).Nodup := by rw [hms6]; exact w1
      have zm : z ∈ ms.map (·.1) := by rw [hms6]; exact hz
      obtain ⟨m, hm, rfl⟩ := List.mem_map.mp zm
      obtain ⟨gm, xs, hxs, hrs⟩ := hM7.at_ m hm
      have hv : valV (ms.map fun m => ((Sum.inr m.1 : Key), V.ref m.2.1)) (Sum.inr m.1) = some (.ref m.2.1) := valM55 nk hm
      refine ⟨D, .ref m.2.1, rfl, by rw [← hv]; exact DGet.k (k := Sum.inr m.1) hM7.d, .inl ⟨rfl, _, SqL.of hxs⟩, _, rfl, _, rfl, a, l, _, ws, rfl, sr7, by omega, la, hl7, by omega, w2, fun H8 v f8 sr8 hv => ?_⟩
      obtain ⟨r, r1, r2, r3⟩ := hv
      have hM8 := hM7.fr f8 ga (lstA sr7)
      have ma : m.2.1 ≠ a := fun z => ga (z ▸ gm)
      have hx8 := f8 _ _ ma hxs
      have lx : xs.length ≤ 1 + i2 := by rw [paired_len hrs]; exact hlen6 m hm
      refine ⟨m.2.1, xs, v, rfl, rfl, hx8, small (by omega), ⟨_, _, rfl⟩, fun b o hb e => ?_, ⟨_, sr8.fr (ok := (· ≠ m.2.1)) (Fr.put fun z => z rfl) (fun z => ma z.symm), by push_cast; omega⟩, _, hM8.app nk hm hx8 (r1.to (Keep.mono fun _ _ _ => trivial)) ⟨r2, r3⟩, ?_, ?_⟩
      · have h1 := f8 _ _ hb (f7 _ _ hb (f6 _ _ hb e))
        rw [upd_ne fun z => ?_]
        · exact h1
        · rw [z, gm] at e; cases e
      · rw [app_keys]; exact hms6
      · exact app_len hlen6
    rintro σ H5 ⟨⟨v5', v6', rfl⟩, f5, ⟨n5, sr5, hn5⟩, ms, hM5, hms5, hlen5⟩
    have nk : (ms.map (·.1)).Nodup := by rw [hms5]; exact w1
    have ek : (lib55 ms).map (·.1) = ws := by unfold lib55; rw [List.map_map]; exact hms5
    have lms : ms.length ≤ 4 := by have := congrArg List.length hms5; rw [List.length_map] at this; omega
    have lrL : LibOk (lib55 ms) := by
      have l8 : ∀ m ∈ lib55 ms, m.2.length ≤ 8 := fun m hm => by
        obtain ⟨x, hx, rfl⟩ := List.mem_map.mp hm
        have := hlen5 x hx
        show x.2.2.length ≤ 8
        omega
      have few : (lib55 ms).length ≤ 4 := by unfold lib55; rw [List.length_map]; exact lms
      refine ⟨few, by rw [ek]; exact w1, fun m hm => (w2 m.1 (by rw [← ek]; exact List.mem_map.mpr ⟨m, hm, rfl⟩)).1, fun m hm => by have := l8 m hm; omega, fun m hm r hr => ?_, rows_tot few l8⟩
      obtain ⟨x, hx, rfl⟩ := List.mem_map.mp hm
      exact ((hM5.ok x hx).2 r hr).1
    have lw : LibW55 (lib55 ms) := fun m hm => by
      obtain ⟨x, hx, rfl⟩ := List.mem_map.mp hm
      obtain ⟨k1, k2⟩ := hM5.ok x hx
      refine ⟨k1, fun o ho => ?_⟩
      obtain ⟨r, hr, ho⟩ := List.mem_flatMap.mp ho
      exact (k2 r hr).2 o ho
    have lpos : 0 < (lib55 ms).length := by
      unfold lib55
      rw [List.length_map]
      have := congrArg List.length hms5
      rw [List.length_map] at this
      have := List.length_pos_iff.mpr w4
      omega
    refine ⟨fun σ H' => ∃ px rd kvs lib2 due ws2 us, (∃ v5 v6, σ = [some (.ref p), some (.int (0 + i)), some (.ref a), some (.ref l), some (.ref D), v5, v6, some (.ref px), some (.ref due), v9, v10]) ∧ Same H5 H' ∧ Prog55 H' C px rd kvs lib2 ∧ lib2.Perm (lib55 ms) ∧ ws2.Perm ws ∧ PyProof.Rows.sortedS ws2 = true ∧ H' due = some (.lst us) ∧ Paired (RgAt (fun _ => True) H') us (rings55 (lib55 ms) ws2), ?_, ?_⟩
    · refine ⟨fun v H' => ∃ px rd kvs lib2, v = .ref px ∧ Same H5 H' ∧ Prog55 H' C px rd kvs lib2 ∧ lib2.Perm (lib55 ms), mk_prog55 (libR_of55 lrL lpos) (fun Q' h => ⟨_, rfl, h _ _ _ (Same.refl _) hM5.d hM5.lib⟩) fun H6 px rd kvs lib2 s6 pr pm => ⟨px, rd, kvs, lib2, rfl, s6, pr, pm⟩, ?_⟩
      rintro v H6 ⟨px, rd, kvs, lib2, rfl, s6, pr, pm⟩
      refine ⟨_, rfl, D, _, _, lib55 ms, rfl, s6 _ _ hM5.d, hM5.lib.to (Keep.fr (Fr.same s6) fun _ k => k), lrL, lw, fun H7 L us ws2 pw sw s7 nL hL prs => ?_⟩
      exact ⟨_, _, rfl, px, rd, kvs, lib2, L, ws2, us, ⟨_, _, rfl⟩, Same.trans s6 s7, pr.same s7, pm, by rw [← ek]; exact pw, sw, hL, paired_imp prs fun v r ⟨b, e, o, h⟩ => ⟨b, e, trivial, h⟩⟩
    rintro σ H6 ⟨px, rd, kvs, lib2, due, ws2, us, ⟨v5, v6, rfl⟩, s56, pr, pm, pw, sw, hdue, prs⟩
    have nd2 : ((lib55 ms).map (·.1)).Nodup := by rw [ek]; exact w1
    refine ⟨2, rfl, by decide, by decide, ?_⟩
    refine for_it (walk_range (lo := 0) (n := (2 : Int).toNat)) (fun i2 σ H' => (∃ v5 v6 v9 v10, σ = [some (.ref p), some (.int (0 + i)), some (.ref a), some (.ref l), some (.ref D), v5, v6, some (.ref px), some (.ref due), v9, v10]) ∧ Same H6 H')
      ⟨⟨_, _, _, _, rfl⟩, Same.refl _⟩ (fun _ _ _ _ _ => trivial) ?_ ?_
    · rintro i2 x σ H7 H8 hi2 ⟨⟨v5, v6, v9, v10, rfl⟩, s8⟩ ⟨rfl, rfl⟩
      refine ⟨_, rfl, px, rd, kvs, lib2, rfl, pr.same s8, fun H9 L us3 ws3 pw3 sw3 s9 nL hL prs3 => ?_⟩
      have pw3' : ws3.Perm ws := by
        have := pw3.trans (pm.map (·.1))
        rwa [ek] at this
      have ew : ws3 = ws2 := words_eq pw3' pw sw3 sw w1
      subst ew
      rw [rings55_perm pm nd2] at prs3
      obtain ⟨lr1, lr2⟩ := rings55_len (lib := lib55 ms) (ws := ws3)
      have lw3 : ws3.length ≤ 4 := by rw [pw3'.length_eq]; exact w3
      have dt1 := rings_dt hL prs3 (by omega) fun r hr => by have := (lr2 r hr).1; omega
      have dt2 := rings_dt hdue prs (by omega) fun r hr => by have := (lr2 r hr).1; omega
      have s69 := Same.trans s8 s9
      refine ⟨_, rfl, _, rfl, .ref L, .ref due, _, rfl, dt1, dt2.to (fun b kd xs e => s69 _ _ e), fun H10 s10 => ⟨true, rfl, iteF ?_⟩⟩
      have s8_10 := Same.trans s9 s10
      have hL10 := s10 _ _ hL
      have lus := paired_len prs3
      refine ⟨_, rfl, .inl ⟨rfl, _, SqL.of hL10⟩, (by show 1 ≤ sizeLine; decide), fun t nt => ?_⟩
      generalize hE_t : upd H10 t _ = I1
      have s_t : Same H10 I1 := by rw [← hE_t]; exact Same.new nt
      have h_t : I1 t = some (.lst [.str "more"]) := by rw [← hE_t]; exact upd_same
      have s8_I := Same.trans s8_10 s_t
      have hLI := s_t _ _ hL10
      have tL : t ≠ L := fun z => by rw [z, hL10] at nt; cases nt
      refine ⟨L, us3, .ref t, rfl, rfl, hLI, small (by omega), ?_⟩
      have s8_J : Same H8 (upd I1 L (.lst (us3 ++ [.ref t]))) := Same.upN s8_I nL
      have hLJ : (upd I1 L (.lst (us3 ++ [.ref t]))) L = some (.lst (us3 ++ [.ref t])) := upd_same
      have htJ : (upd I1 L (.lst (us3 ++ [.ref t]))) t = some (.lst [.str "more"]) := by rw [upd_ne tL]; exact h_t
      have prsJ : Paired (RgAt (fun a => H8 a = none ∧ a ≠ L) (upd I1 L (.lst (us3 ++ [.ref t])))) us3 (rings55 (lib55 ms) ws3) := paired_imp prs3 fun v r ⟨b, e, o, h⟩ => ⟨b, e, o, by rw [upd_ne o.2]; exact s_t _ _ (s10 _ _ h)⟩
      generalize upd I1 L _ = J at *
      have first : ∃ b xs, (us3 ++ [.ref t])[0]? = some (V.ref b) ∧ H8 b = none ∧ J b = some (.lst xs) ∧ xs.length ≤ 4 := by
        cases us3 with
        | nil => exact ⟨t, _, rfl, Same.free s8_10 nt, htJ, by decide⟩
        | cons u us3 =>
          cases hrs : rings55 (lib55 ms) ws3 with
          | nil => rw [hrs] at prsJ; cases prsJ
          | cons r rs =>
            rw [hrs] at prsJ lr2
            cases prsJ with
            | cons q _ =>
              obtain ⟨b, e, o, h⟩ := q
              have := (lr2 r (by simp)).1
              exact ⟨b, _, by rw [e]; rfl, o.1, h, by rw [List.length_map]; omega⟩
      obtain ⟨b, xs, e0, nb, hb, lx⟩ := first
      refine ⟨_, rfl, L, _, 0, .ref b, rfl, rfl, SqL.of hLJ, atI_nat (j := 0) e0, .inl ⟨rfl, _, SqL.of hb⟩, b, xs, _, rfl, rfl, hb, small (by omega), ⟨_, _, _, _, rfl⟩, ?_⟩
      exact Same.trans s8 (Same.upN s8_J nb)
    rintro σ H7 ⟨⟨v5, v6, v9, v10, rfl⟩, s7⟩
    refine ⟨fun b o e => ?_, _, _, _, _, _, _, _, _, _, _, rfl⟩
    have h1 := s1 _ _ (sH _ _ e)
    have ba : b ≠ a := fun z => by have := sH _ _ e; rw [z, na] at this; cases this
    exact s7 _ _ (s56 _ _ (f5 _ _ ba (f12 _ _ ba h1)))
  · rintro σ H0 ⟨sH, v1, v2, v3, v4, v5, v6, v7, v8, v9, v10, rfl⟩
    have sz1 : 1 ≤ sizeLine := by decide
    have sz3 : 3 ≤ sizeLine := by decide
    have sz4 : 4 ≤ sizeLine := by decide
    refine ⟨fun σ H' => ∃ D kvs, σ = [some (.ref p), v1, v2, v3, some (.ref D), v5, v6, v7, v8, v9, v10] ∧ H' D = some (.dK kvs) ∧ LibAt (fun y => H' y ≠ none) mixK H' kvs libF2, ?_, ?_⟩
    · exact wd55 (wesC (wrsC (wr55 fun σ H Q q => q) (wrsC (wr55 fun σ H Q q => q) (wrsC (wr55 fun σ H Q q => q) wrsN))) (by decide) (wesC (wrsC (wr55 fun σ H Q q => q) wrsN) (by decide) wesN)) (lib := libF2) (by decide) (by decide +kernel) fun H' dm kvs _ h1 h2 => ⟨dm, kvs, rfl, h1, h2⟩
    rintro σ H1 ⟨D, kvs, rfl, hD, hlib⟩
    refine prog55_mid (libR_c55 (lib := libF1) (by decide +kernel)) (fun Q' h => wd55 wrF1 (by decide) (by decide +kernel) h) fun H2 px2 rd2 kvs2 lib2 s2 pr2 pm2 => ?_
    refine ⟨px2, rd2, kvs2, lib2, rfl, pr2, fun H3 L us ws pw sw s3 nL hL prs => ⟨Nat.zero_le _, fun e ne => ?_⟩⟩
    rw [rings55_perm pm2 (by decide +kernel), f1_is (pw.trans (pm2.map _)) sw] at prs
    cases prs
    generalize hE_e : upd H3 e _ = H4
    have s_e : Same H3 H4 := by rw [← hE_e]; exact Same.new ne
    have h_e : H4 e = some (.lst []) := by rw [← hE_e]; exact upd_same
    refine ⟨.list [], .list [], .lst (SqL.of (s_e _ _ hL)) .nil, .lst (SqL.of h_e) .nil, rfl, rfl, _, rfl, ?_⟩
    rw [show PyData.eqv (.list []) (.list []) = true from rfl]
    refine iteF ?_
    have s14 := Same.trans s2 (Same.trans s3 s_e)
    refine prog55_mid (libR_c55 (lib := libF2) (by decide +kernel)) (fun Q' h => ⟨_, rfl, h _ _ _ (Same.refl _) (s14 _ _ hD) (hlib.to (nn55 s14))⟩) fun H5 px3 rd3 kvs3 lib3 s5 pr3 pm3 => ?_
    refine ⟨px3, rd3, kvs3, lib3, rfl, pr3, fun H6 L2 us ws pw sw s6 nL2 hL2 prs => ⟨Nat.zero_le _, fun e2 ne2 => ?_⟩⟩
    rw [rings55_perm pm3 (by decide +kernel), f2_is (pw.trans (pm3.map _)) sw] at prs
    cases prs
    generalize hE_e2 : upd H6 e2 _ = H7
    have s_e2 : Same H6 H7 := by rw [← hE_e2]; exact Same.new ne2
    have h_e2 : H7 e2 = some (.lst []) := by rw [← hE_e2]; exact upd_same
    refine ⟨.list [], .list [], .lst (SqL.of (s_e2 _ _ hL2)) .nil, .lst (SqL.of h_e2) .nil, rfl, rfl, _, rfl, ?_⟩
    rw [show PyData.eqv (.list []) (.list []) = true from rfl]
    refine iteF ?_
    refine ⟨fun σ H' => ∃ D kvs, σ = [some (.ref p), v1, v2, v3, some (.ref D), v5, v6, v7, v8, v9, v10] ∧ H' D = some (.dK kvs) ∧ LibAt (fun y => H' y ≠ none) mixK H' kvs libF4, ?_, ?_⟩
    · exact wd55 (wesC (wrsC (wr55 fun σ H Q q => q) wrsN) (by decide) (wesC (wrsC (wr55 fun σ H Q q => q) wrsN) (by decide) (wesC (wrsC (wr55 fun σ H Q q => q) wrsN) (by decide) wesN))) (lib := libF4) (by decide) (by decide +kernel) fun H' dm kvs _ h1 h2 => ⟨dm, kvs, rfl, h1, h2⟩
    clear hlib hD
    rintro σ H1 ⟨D, kvs, rfl, hD, hlib⟩
    refine prog55_mid (libR_c55 (lib := libF3) (by decide +kernel)) (fun Q' h => wd55 (wesC (wrsC (wr55 fun σ H Q q => q) wrsN) (by decide) wesN) (by decide) (by decide +kernel) h) fun H2 px2 rd2 kvs2 lib2 s2 pr2 pm2 => ?_
    refine ⟨px2, rd2, kvs2, lib2, rfl, pr2, fun H3 L us ws pw sw s3 nL hL prs => ⟨sz1, fun i1 ni1 => ?_⟩⟩
    rw [rings55_perm pm2 (by decide +kernel), f3_is (pw.trans (pm2.map _)) sw] at prs
    generalize hE_i1 : upd H3 i1 _ = I1
    have s_i1 : Same H3 I1 := by rw [← hE_i1]; exact Same.new ni1
    have h_i1 : I1 i1 = some (.lst [.str "a"]) := by rw [← hE_i1]; exact upd_same
    refine ⟨sz1, fun i2 ni2 => ?_⟩
    generalize hE_i2 : upd I1 i2 _ = I2
    have s_i2 : Same I1 I2 := by rw [← hE_i2]; exact Same.new ni2
    have h_i2 : I2 i2 = some (.lst [.ref i1]) := by rw [← hE_i2]; exact upd_same
    have s3_5 := Same.trans s_i1 s_i2
    refine ⟨.list [.list [.str "a"]], .list [.list [.str "a"]], .lst (SqL.of (s3_5 _ _ hL)) (dpAll_rg (paired_imp prs fun v r ⟨b, e, o, h⟩ => (⟨b, e, o, s3_5 _ _ h⟩ : RgAt _ I2 v r))), .lst (SqL.of h_i2) (.cons (.lst (SqL.of (s_i2 _ _ h_i1)) (.cons (.str _) .nil)) .nil), by decide +kernel, by decide +kernel, ?_⟩
    rw [show PyData.eqv (.list [.list [.str "a"]]) (.list [.list [.str "a"]]) = true by decide +kernel]
    refine ⟨true, rfl, iteT ?_⟩
    have s15 := Same.trans s2 (Same.trans s3 s3_5)
    refine prog55_mid (libR_c55 (lib := libF4) (by decide +kernel)) (fun Q' h => ⟨_, rfl, h _ _ _ (Same.refl _) (s15 _ _ hD) (hlib.to (nn55 s15))⟩) fun H5 px3 rd3 kvs3 lib3 s5 pr3 pm3 => ?_
    refine ⟨px3, rd3, kvs3, lib3, rfl, pr3, fun H6 L2 us ws pw sw s6 nL2 hL2 prs => ⟨(by show 2 ≤ sizeLine; decide), fun j1 nj1 => ?_⟩⟩
    rw [rings55_perm pm3 (by decide +kernel), f4_is (pw.trans (pm3.map _)) sw] at prs
    generalize hE_j1 : upd H6 j1 _ = J1
    have s_j1 : Same H6 J1 := by rw [← hE_j1]; exact Same.new nj1
    have h_j1 : J1 j1 = some (.lst [.str "a", .str "b"]) := by rw [← hE_j1]; exact upd_same
    refine ⟨sz1, fun j2 nj2 => ?_⟩
    generalize hE_j2 : upd J1 j2 _ = J2
    have s_j2 : Same J1 J2 := by rw [← hE_j2]; exact Same.new nj2
    have h_j2 : J2 j2 = some (.lst [.str "c"]) := by rw [← hE_j2]; exact upd_same
    refine ⟨(by show 2 ≤ sizeLine; decide), fun j3 nj3 => ?_⟩
    generalize hE_j3 : upd J2 j3 _ = J3
    have s_j3 : Same J2 J3 := by rw [← hE_j3]; exact Same.new nj3
    have h_j3 : J3 j3 = some (.lst [.ref j1, .ref j2]) := by rw [← hE_j3]; exact upd_same
    have s6_9 := Same.trans s_j1 (Same.trans s_j2 s_j3)
    refine ⟨.list [.list [.str "a", .str "b"], .list [.str "c"]], .list [.list [.str "a", .str "b"], .list [.str "c"]], .lst (SqL.of (s6_9 _ _ hL2)) (dpAll_rg (paired_imp prs fun v r ⟨b, e, o, h⟩ => (⟨b, e, o, s6_9 _ _ h⟩ : RgAt _ J3 v r))),
      .lst (SqL.of h_j3) (.cons (.lst (SqL.of (s_j3 _ _ (s_j2 _ _ h_j1))) (.cons (.str _) (.cons (.str _) .nil))) (.cons (.lst (SqL.of (s_j3 _ _ h_j2)) (.cons (.str _) .nil)) .nil)), by decide +kernel, by decide +kernel, ?_⟩
    rw [show PyData.eqv (.list [.list [.str "a", .str "b"], .list [.str "c"]]) (.list [.list [.str "a", .str "b"], .list [.str "c"]]) = true by decide +kernel]
    exact q _
end
end Ft
set_option Elab.async false
set_option linter.all false
set_option maxRecDepth 100000
set_option maxHeartbeats 0
namespace Ft
open PySem L2
def dX (x : Str) (st : Stmt) : He.DefD := ⟨(x, none), x, x, defArgs st, defBody st, defScope st, [], []⟩
def dM (c m q : Str) (st : Stmt) : He.DefD := ⟨(c, some m), m, q, defArgs st, defBody st, defScope st, [], []⟩
def hFn : List He.DefD := [dX "_law_source" sLSource,
  dX "_law_draw" sLDraw,
  dX "_law_pick" sLPick,
  dX "_law_same" sLSame,
  dX "_law_walked" sLWalked,
  dX "_law_some_import" sLSomeImport,
  dX "_law_rings" sLRings,
  dX "law" sLaw,
  dX "is_integer" sIsInteger,
  dX "is_word" sIsWord,
  dX "is_field" sIsField,
  dX "is_row" sIsRow,
  dX "blocks_of" sBlocksOf,
  dX "first_wrong" sFirstWrong,
  dX "check_modules" sCheckModules,
  dX "frozen" sFrozen,
  dX "walked" sWalked,
  dX "named_modules" sNamedModules,
  dX "reached_from" sReachedFrom,
  dX "rings" sRings,
  dM "Program" "__init__" "Program.__init__" sProgramInit]
def hFa : List He.Fa := [.glo "_law_source",
  .glo "_law_draw",
  .glo "_law_pick",
  .glo "_law_same",
  .glo "_law_walked",
  .glo "_law_some_import",
  .glo "_law_rings",
  .glo "law",
  .glo "is_integer",
  .glo "is_word",
  .glo "is_field",
  .glo "is_row",
  .glo "blocks_of",
  .glo "first_wrong",
  .glo "check_modules",
  .glo "frozen",
  .glo "walked",
  .glo "named_modules",
  .glo "reached_from",
  .glo "rings",
  .free "int",
  .free "len",
  .free "range",
  .free "isinstance",
  .free "tuple",
  .free "list",
  .free "dict",
  .free "str",
  .free "bool",
  .free "sorted",
  .free "zip",
  .free "enumerate",
  .free "all",
  .free "max",
  .free "min",
  .free "sum",
  .free "any",
  .glo "Program",
  .cls "Program",
  .noat "Program" "rows_of",
  .noat "Program" "spots",
  .mkr "Program",
  .glo "FIELDS",
  .str "LETTERS" letters]
def hTs : List He.Tab := [(fun K => He.ga K "FIELDS", fieldsT.map (·.1))]
def nm0 : List Str := ["_wall", "named_modules", "reached_from", "rings", "TouchError", "BadProgram", "BadText", "BadWord", "LETTERS", "is_integer", "is_word", "FIGURES", "STEP", "FIELDS", "is_field", "is_row", "blocks_of", "first_wrong", "check_modules", "frozen", "walked", "lines_of", "is_written", "number_of", "read_row", "stands_at", "read_rows", "read_modules", "Program", "_law_source"]
def nm1 : List Str := ["_law_draw", "_law_pick", "_law_same", "_law_walked", "_law_some_import", "_law_rings"]
def hNames : List Str := nm0 ++ nm1
def lawIx : Nat := 41
def topM : Nat := 20000
/-- the tuples of the table -/
def strsB : List Str → List Value → Bool
  | [], [] => true
  | z :: zs, .str y _ :: us => decide (y = z) && strsB zs us
  | _, _ => false
theorem strsB_ok : ∀ {zs : List Str} {us : List Value}, strsB zs us = true → Vals (zs.map V.str) us
  | [], [], _ => .nil
  | [], _ :: _, h => by cases h
  | _ :: _, [], h => by cases h
  | z :: zs, u :: us, h => by
    cases u with
    | str y t =>
      unfold strsB at h
      rw [Bool.and_eq_true] at h
      have e : y = z := of_decide_eq_true h.1
      subst e
      exact .cons ⟨t, rfl⟩ (strsB_ok h.2)
    | _ => cases h
def fldB (K : PySem.W.Frag) (p : Str × List Str) : Bool := match PySem.W.nsIn K (He.ga K "FIELDS") p.1 with
  | some (some (.ref a)) => (match K.lookup a with
    | some ⟨.type c, _, .seq its _, _⟩ => decide (c = "tuple") && (decide (its.size ≤ 100) && strsB p.2 its.toList)
    | _ => false)
  | _ => false
def hEx (K : PySem.W.Frag) : Bool := fieldsT.all (fldB K)
theorem fldB_ok {K : PySem.W.Frag} {p : Str × List Str} (h : fldB K p = true) : ∃ tA, PySem.W.nsIn K (He.ga K "FIELDS") p.1 = some (some (.ref tA)) ∧ ∀ H, SqT K H tA (p.2.map V.str) := by
  unfold fldB at h
  split at h
  · rename_i a e
    split at h
    · rename_i c od its n sl q
      rw [Bool.and_eq_true, Bool.and_eq_true] at h
      have ec : c = "tuple" := of_decide_eq_true h.1
      have ez : its.size ≤ 100 := of_decide_eq_true h.2.1
      subst ec
      exact ⟨a, e, fun H => .inr ⟨_, its, n, q, rfl, rfl, Nat.le_of_lt (small (by omega)), strsB_ok h.2.2⟩⟩
    · cases h
  · cases h
theorem no_key {w : World} {K : PySem.W.Frag} {a : Addr} {ks : List Str} (h : He.dicW K a = some (He.keysIn w.params ks)) {z : Str} (hz : z ∉ ks) : PySem.W.nsIn K a z = some none := by
  unfold He.dicW at h
  split at h
  · rename_i c es n sl q
    split at h
    · have h' := Option.some.inj h
      have all : ∀ e ∈ es.toList, ∃ x t, e.key = .str x t ∧ x ∈ ks := by
        have go : ∀ (l : List DictEntry) (ks : List Str), l.map He.keyOf = He.keysIn w.params ks → ∀ e ∈ l, ∃ x t, e.key = .str x t ∧ x ∈ ks := by
          intro l
          induction l with
          | nil => intro ks _ e he; cases he
          | cons d l ih =>
            intro ks h e he
            cases ks with
            | nil => cases h
            | cons k ks =>
              have h2 : He.keyOf d :: l.map He.keyOf = some (k, PyData.keyHash w.params k) :: He.keysIn w.params ks := h
              have h3 := List.cons.inj h2
              rcases List.mem_cons.mp he with e1 | he
              · rw [e1]
                have h4 := h3.1
                unfold He.keyOf at h4
                split at h4
                · rename_i x t qk
                  have h5 := Prod.mk.inj (Option.some.inj h4)
                  exact ⟨x, t, qk, by rw [h5.1]; simp⟩
                · cases h4
              · obtain ⟨x, t, h5, h6⟩ := ih ks h3.2 e he
                exact ⟨x, t, h5, by simp [h6]⟩
        exact go _ _ h'
      unfold PySem.W.nsIn
      rw [q]
      have e1 : es.toList.find? (fun e => e.key.isStr z) = none := by
        rw [List.find?_eq_none]
        intro e he
        obtain ⟨x, t, hk, hx⟩ := all e he
        rw [hk]
        intro hs
        have : x = z := by
          have hs' : (x == z) = true := hs
          exact beq_iff_eq.mp hs'
        exact hz (by rw [← this]; exact hx)
      have e2 : es.toList.any (fun e => e.refKey) = false := by
        rw [List.any_eq_false]
        intro e he
        obtain ⟨x, t, hk, hx⟩ := all e he
        unfold DictEntry.refKey
        rw [hk]
        exact Bool.false_ne_true
      show (match es.toList.find? (fun e => e.key.isStr z) with
        | some e => some (some e.val)
        | none => if es.toList.any (fun e => e.refKey) then none else some none) = some none
      rw [e1]
      show (if es.toList.any (fun e => e.refKey) then none else some none) = some none
      rw [e2]
      rfl
    · cases h
  · cases h
abbrev hR : PySem.W.OpenRow := PySem.W.OpenLaw.row PySem.Challenge.rw_firsttouch_k55_rings_told
abbrev hHk : PySem.W.Hook := He.hookX 4 hFa hFn hTs [] hEx
def hOb (s : PySem.W.SharedT) : He.AlX := He.obsX 4 hFa hFn hTs [] hEx (HandSHeadRun.getT s)
theorem hOb_eq (s : PySem.W.SharedT) : hOb s = hHk.obs s.abs := He.obsX_eq (HandSHeadRun.getT_eq s)
theorem hRun (w : World) : HandSHeadRun.RunEq hR (PySem.W.view hR.prog [lawIx]) hHk hOb topM hNames w :=
  PySem.W.byRow2 "special-get-raises" (P := fun w => HandSHeadRun.RunEq hR (PySem.W.view hR.prog [lawIx]) hHk hOb topM hNames w) (fun w => by intro os; kernel_rfl) (fun w => by intro os; kernel_rfl) w
end Ft
set_option Elab.async false
set_option linter.all false
set_option maxRecDepth 100000
set_option maxHeartbeats 0
namespace Ft
open PySem L2
theorem facts {P : PySem.Program} {w : World} {K : PySem.W.Frag} {h : Heap} {mg : Str → Option Value} {f : Addr} (X : K.In h) (G : h.Ns mainGlobals mg) (hfa : mg ("law" : Str) = some (.ref f)) (c : He.SaysX hFa hFn hTs [] hEx w h K) :
    ∃ fd : FuncData, (∀ (s : Shared) (v : Value), BindsTo s fd ⟨[v], []⟩ [("_law_script", v)]) ∧ ∀ base : Heap, K.In base → base.Ns mainGlobals mg → FnOk P w K mg base CX0 21 f fd ["_law_script"] (spLaw K) := by
  have cd := c.t.d
  obtain ⟨fdLSource, F0LSource⟩ := cd.def_ 0 (d := dX "_law_source" sLSource) rfl
  have FLSource : Fun K "_law_source" "_law_source" sLSource (He.ga K "_law_source") fdLSource := He5.fun_of F0LSource
  have bLSource : Binds K fdLSource ["_law_script", "_law_k"] [] := FLSource.binds fun _ _ _ _ _ _ us hl => match us, hl with | [_, _], _ => rfl
  obtain ⟨fdLDraw, F0LDraw⟩ := cd.def_ 1 (d := dX "_law_draw" sLDraw) rfl
  have FLDraw : Fun K "_law_draw" "_law_draw" sLDraw (He.ga K "_law_draw") fdLDraw := He5.fun_of F0LDraw
  have bLDraw : Binds K fdLDraw ["_law_source_here", "_law_many"] [] := FLDraw.binds fun _ _ _ _ _ _ us hl => match us, hl with | [_, _], _ => rfl
  obtain ⟨fdLPick, F0LPick⟩ := cd.def_ 2 (d := dX "_law_pick" sLPick) rfl
  have FLPick : Fun K "_law_pick" "_law_pick" sLPick (He.ga K "_law_pick") fdLPick := He5.fun_of F0LPick
  have bLPick : Binds K fdLPick ["_law_source_here", "_law_some"] [] := FLPick.binds fun _ _ _ _ _ _ us hl => match us, hl with | [_, _], _ => rfl
  obtain ⟨fdLSame, F0LSame⟩ := cd.def_ 3 (d := dX "_law_same" sLSame) rfl
  have FLSame : Fun K "_law_same" "_law_same" sLSame (He.ga K "_law_same") fdLSame := He5.fun_of F0LSame
  have bLSame : Binds K fdLSame ["_law_found", "_law_due"] [] := FLSame.binds fun _ _ _ _ _ _ us hl => match us, hl with | [_, _], _ => rfl
  obtain ⟨fdLWalked, F0LWalked⟩ := cd.def_ 4 (d := dX "_law_walked" sLWalked) rfl
  have FLWalked : Fun K "_law_walked" "_law_walked" sLWalked (He.ga K "_law_walked") fdLWalked := He5.fun_of F0LWalked
  have bLWalked : Binds K fdLWalked ["_law_rows", "_law_ahead"] [] := FLWalked.binds fun _ _ _ _ _ _ us hl => match us, hl with | [_, _], _ => rfl
  obtain ⟨fdLSomeImport, F0LSomeImport⟩ := cd.def_ 5 (d := dX "_law_some_import" sLSomeImport) rfl
  have FLSomeImport : Fun K "_law_some_import" "_law_some_import" sLSomeImport (He.ga K "_law_some_import") fdLSomeImport := He5.fun_of F0LSomeImport
  have bLSomeImport : Binds K fdLSomeImport ["_law_source_here", "_law_words"] [] := FLSomeImport.binds fun _ _ _ _ _ _ us hl => match us, hl with | [_, _], _ => rfl
  obtain ⟨fdLRings, F0LRings⟩ := cd.def_ 6 (d := dX "_law_rings" sLRings) rfl
  have FLRings : Fun K "_law_rings" "_law_rings" sLRings (He.ga K "_law_rings") fdLRings := He5.fun_of F0LRings
  have bLRings : Binds K fdLRings ["_law_modules"] [] := FLRings.binds fun _ _ _ _ _ _ us hl => match us, hl with | [_], _ => rfl
  obtain ⟨fdLaw, F0Law⟩ := cd.def_ 7 (d := dX "law" sLaw) rfl
  have FLaw : Fun K "law" "law" sLaw (He.ga K "law") fdLaw := He5.fun_of F0Law
  have bLaw : Binds K fdLaw ["_law_script"] [] := FLaw.binds fun _ _ _ _ _ _ us hl => match us, hl with | [_], _ => rfl
  obtain ⟨fdIsInteger, F0IsInteger⟩ := cd.def_ 8 (d := dX "is_integer" sIsInteger) rfl
  have FIsInteger : Fun K "is_integer" "is_integer" sIsInteger (He.ga K "is_integer") fdIsInteger := He5.fun_of F0IsInteger
  have bIsInteger : Binds K fdIsInteger ["thing"] [] := FIsInteger.binds fun _ _ _ _ _ _ us hl => match us, hl with | [_], _ => rfl
  obtain ⟨fdIsWord, F0IsWord⟩ := cd.def_ 9 (d := dX "is_word" sIsWord) rfl
  have FIsWord : Fun K "is_word" "is_word" sIsWord (He.ga K "is_word") fdIsWord := He5.fun_of F0IsWord
  have bIsWord : Binds K fdIsWord ["thing"] [] := FIsWord.binds fun _ _ _ _ _ _ us hl => match us, hl with | [_], _ => rfl
  obtain ⟨fdIsField, F0IsField⟩ := cd.def_ 10 (d := dX "is_field" sIsField) rfl
  have FIsField : Fun K "is_field" "is_field" sIsField (He.ga K "is_field") fdIsField := He5.fun_of F0IsField
  have bIsField : Binds K fdIsField ["field", "part"] [] := FIsField.binds fun _ _ _ _ _ _ us hl => match us, hl with | [_, _], _ => rfl
  obtain ⟨fdIsRow, F0IsRow⟩ := cd.def_ 11 (d := dX "is_row" sIsRow) rfl
  have FIsRow : Fun K "is_row" "is_row" sIsRow (He.ga K "is_row") fdIsRow := He5.fun_of F0IsRow
  have bIsRow : Binds K fdIsRow ["thing", "is_within"] [] := FIsRow.binds fun _ _ _ _ _ _ us hl => match us, hl with | [_, _], _ => rfl
  obtain ⟨fdBlocksOf, F0BlocksOf⟩ := cd.def_ 12 (d := dX "blocks_of" sBlocksOf) rfl
  have FBlocksOf : Fun K "blocks_of" "blocks_of" sBlocksOf (He.ga K "blocks_of") fdBlocksOf := He5.fun_of F0BlocksOf
  have bBlocksOf : Binds K fdBlocksOf ["row"] [] := FBlocksOf.binds fun _ _ _ _ _ _ us hl => match us, hl with | [_], _ => rfl
  obtain ⟨fdFirstWrong, F0FirstWrong⟩ := cd.def_ 13 (d := dX "first_wrong" sFirstWrong) rfl
  have FFirstWrong : Fun K "first_wrong" "first_wrong" sFirstWrong (He.ga K "first_wrong") fdFirstWrong := He5.fun_of F0FirstWrong
  have bFirstWrong : Binds K fdFirstWrong ["rows", "path", "is_within"] [] := FFirstWrong.binds fun _ _ _ _ _ _ us hl => match us, hl with | [_, _, _], _ => rfl
  obtain ⟨fdCheckModules, F0CheckModules⟩ := cd.def_ 14 (d := dX "check_modules" sCheckModules) rfl
  have FCheckModules : Fun K "check_modules" "check_modules" sCheckModules (He.ga K "check_modules") fdCheckModules := He5.fun_of F0CheckModules
  have bCheckModules : Binds K fdCheckModules ["modules"] [] := FCheckModules.binds fun _ _ _ _ _ _ us hl => match us, hl with | [_], _ => rfl
  obtain ⟨fdFrozen, F0Frozen⟩ := cd.def_ 15 (d := dX "frozen" sFrozen) rfl
  have FFrozen : Fun K "frozen" "frozen" sFrozen (He.ga K "frozen") fdFrozen := He5.fun_of F0Frozen
  have bFrozen : Binds K fdFrozen ["rows"] [] := FFrozen.binds fun _ _ _ _ _ _ us hl => match us, hl with | [_], _ => rfl
  obtain ⟨fdWalked, F0Walked⟩ := cd.def_ 16 (d := dX "walked" sWalked) rfl
  have FWalked : Fun K "walked" "walked" sWalked (He.ga K "walked") fdWalked := He5.fun_of F0Walked
  have bWalked : Binds K fdWalked ["rows", "path"] [] := FWalked.binds fun _ _ _ _ _ _ us hl => match us, hl with | [_, _], _ => rfl
  obtain ⟨fdNamedModules, F0NamedModules⟩ := cd.def_ 17 (d := dX "named_modules" sNamedModules) rfl
  have FNamedModules : Fun K "named_modules" "named_modules" sNamedModules (He.ga K "named_modules") fdNamedModules := He5.fun_of F0NamedModules
  have bNamedModules : Binds K fdNamedModules ["rows"] [] := FNamedModules.binds fun _ _ _ _ _ _ us hl => match us, hl with | [_], _ => rfl
  obtain ⟨fdReachedFrom, F0ReachedFrom⟩ := cd.def_ 18 (d := dX "reached_from" sReachedFrom) rfl
  have FReachedFrom : Fun K "reached_from" "reached_from" sReachedFrom (He.ga K "reached_from") fdReachedFrom := He5.fun_of F0ReachedFrom
  have bReachedFrom : Binds K fdReachedFrom ["program", "module"] [] := FReachedFrom.binds fun _ _ _ _ _ _ us hl => match us, hl with | [_, _], _ => rfl
  obtain ⟨fdRings, F0Rings⟩ := cd.def_ 19 (d := dX "rings" sRings) rfl
  have FRings : Fun K "rings" "rings" sRings (He.ga K "rings") fdRings := He5.fun_of F0Rings
  have bRings : Binds K fdRings ["program"] [] := FRings.binds fun _ _ _ _ _ _ us hl => match us, hl with | [_], _ => rfl
  obtain ⟨fdProgramInit, F0ProgramInit⟩ := cd.def_ 20 (d := dM "Program" "__init__" "Program.__init__" sProgramInit) rfl
  have FProgramInit : Fun K "__init__" "Program.__init__" sProgramInit (He.ma K (He.ga K "Program") "__init__") fdProgramInit := He5.fun_of F0ProgramInit
  have bProgramInit : Binds K fdProgramInit ["self", "modules"] [] := FProgramInit.binds fun _ _ _ _ _ _ us hl => match us, hl with | [_, _], _ => rfl
  have mLSource : mg ("_law_source" : Str) = some (.ref (He.ga K "_law_source")) := He.glo_ok X G (cd.fact 0 (f := .glo "_law_source") rfl)
  have mLDraw : mg ("_law_draw" : Str) = some (.ref (He.ga K "_law_draw")) := He.glo_ok X G (cd.fact 1 (f := .glo "_law_draw") rfl)
  have mLPick : mg ("_law_pick" : Str) = some (.ref (He.ga K "_law_pick")) := He.glo_ok X G (cd.fact 2 (f := .glo "_law_pick") rfl)
  have mLSame : mg ("_law_same" : Str) = some (.ref (He.ga K "_law_same")) := He.glo_ok X G (cd.fact 3 (f := .glo "_law_same") rfl)
  have mLWalked : mg ("_law_walked" : Str) = some (.ref (He.ga K "_law_walked")) := He.glo_ok X G (cd.fact 4 (f := .glo "_law_walked") rfl)
  have mLSomeImport : mg ("_law_some_import" : Str) = some (.ref (He.ga K "_law_some_import")) := He.glo_ok X G (cd.fact 5 (f := .glo "_law_some_import") rfl)
  have mLRings : mg ("_law_rings" : Str) = some (.ref (He.ga K "_law_rings")) := He.glo_ok X G (cd.fact 6 (f := .glo "_law_rings") rfl)
  have mLaw : mg ("law" : Str) = some (.ref (He.ga K "law")) := He.glo_ok X G (cd.fact 7 (f := .glo "law") rfl)
  have mIsInteger : mg ("is_integer" : Str) = some (.ref (He.ga K "is_integer")) := He.glo_ok X G (cd.fact 8 (f := .glo "is_integer") rfl)
  have mIsWord : mg ("is_word" : Str) = some (.ref (He.ga K "is_word")) := He.glo_ok X G (cd.fact 9 (f := .glo "is_word") rfl)
  have mIsField : mg ("is_field" : Str) = some (.ref (He.ga K "is_field")) := He.glo_ok X G (cd.fact 10 (f := .glo "is_field") rfl)
  have mIsRow : mg ("is_row" : Str) = some (.ref (He.ga K "is_row")) := He.glo_ok X G (cd.fact 11 (f := .glo "is_row") rfl)
  have mBlocksOf : mg ("blocks_of" : Str) = some (.ref (He.ga K "blocks_of")) := He.glo_ok X G (cd.fact 12 (f := .glo "blocks_of") rfl)
  have mFirstWrong : mg ("first_wrong" : Str) = some (.ref (He.ga K "first_wrong")) := He.glo_ok X G (cd.fact 13 (f := .glo "first_wrong") rfl)
  have mCheckModules : mg ("check_modules" : Str) = some (.ref (He.ga K "check_modules")) := He.glo_ok X G (cd.fact 14 (f := .glo "check_modules") rfl)
  have mFrozen : mg ("frozen" : Str) = some (.ref (He.ga K "frozen")) := He.glo_ok X G (cd.fact 15 (f := .glo "frozen") rfl)
  have mWalked : mg ("walked" : Str) = some (.ref (He.ga K "walked")) := He.glo_ok X G (cd.fact 16 (f := .glo "walked") rfl)
  have mNamedModules : mg ("named_modules" : Str) = some (.ref (He.ga K "named_modules")) := He.glo_ok X G (cd.fact 17 (f := .glo "named_modules") rfl)
  have mReachedFrom : mg ("reached_from" : Str) = some (.ref (He.ga K "reached_from")) := He.glo_ok X G (cd.fact 18 (f := .glo "reached_from") rfl)
  have mRings : mg ("rings" : Str) = some (.ref (He.ga K "rings")) := He.glo_ok X G (cd.fact 19 (f := .glo "rings") rfl)
  have z_int : mg ("int" : Str) = none := He.free_ok X G (cd.fact 20 (f := .free "int") rfl)
  have z_len : mg ("len" : Str) = none := He.free_ok X G (cd.fact 21 (f := .free "len") rfl)
  have z_range : mg ("range" : Str) = none := He.free_ok X G (cd.fact 22 (f := .free "range") rfl)
  have z_isinstance : mg ("isinstance" : Str) = none := He.free_ok X G (cd.fact 23 (f := .free "isinstance") rfl)
  have z_tuple : mg ("tuple" : Str) = none := He.free_ok X G (cd.fact 24 (f := .free "tuple") rfl)
  have z_list : mg ("list" : Str) = none := He.free_ok X G (cd.fact 25 (f := .free "list") rfl)
  have z_dict : mg ("dict" : Str) = none := He.free_ok X G (cd.fact 26 (f := .free "dict") rfl)
  have z_str : mg ("str" : Str) = none := He.free_ok X G (cd.fact 27 (f := .free "str") rfl)
  have z_bool : mg ("bool" : Str) = none := He.free_ok X G (cd.fact 28 (f := .free "bool") rfl)
  have z_sorted : mg ("sorted" : Str) = none := He.free_ok X G (cd.fact 29 (f := .free "sorted") rfl)
  have z_zip : mg ("zip" : Str) = none := He.free_ok X G (cd.fact 30 (f := .free "zip") rfl)
  have z_enumerate : mg ("enumerate" : Str) = none := He.free_ok X G (cd.fact 31 (f := .free "enumerate") rfl)
  have z_all : mg ("all" : Str) = none := He.free_ok X G (cd.fact 32 (f := .free "all") rfl)
  have z_max : mg ("max" : Str) = none := He.free_ok X G (cd.fact 33 (f := .free "max") rfl)
  have z_min : mg ("min" : Str) = none := He.free_ok X G (cd.fact 34 (f := .free "min") rfl)
  have z_sum : mg ("sum" : Str) = none := He.free_ok X G (cd.fact 35 (f := .free "sum") rfl)
  have z_any : mg ("any" : Str) = none := He.free_ok X G (cd.fact 36 (f := .free "any") rfl)
  have mProgram : mg ("Program" : Str) = some (.ref (He.ga K "Program")) := He.glo_ok X G (cd.fact 37 (f := .glo "Program") rfl)
  have hCls : Cls K (He.ga K "Program") := He.cls_ok (cd.fact 38 (f := .cls "Program") rfl)
  have n_rows_of : NoAttr K (He.ga K "Program") "rows_of" := He.noat_ok (cd.fact 39 (f := .noat "Program" "rows_of") rfl)
  have n_spots : NoAttr K (He.ga K "Program") "spots" := He.noat_ok (cd.fact 40 (f := .noat "Program" "spots") rfl)
  have hMk : Mk K (He.ga K "Program") (He.ma K (He.ga K "Program") "__init__") := He.mkr_ok (cd.fact 41 (f := .mkr "Program") rfl)
  have mFIELDS : mg ("FIELDS" : Str) = some (.ref (He.ga K "FIELDS")) := He.glo_ok X G (cd.fact 42 (f := .glo "FIELDS") rfl)
  obtain ⟨tL, mL⟩ : ∃ t, mg ("LETTERS" : Str) = some (.str letters t) := He.str_ok X G (cd.fact 43 (f := .str "LETTERS" letters) rfl)
  have B : Bl mg := ⟨z_int, z_len, z_range, z_isinstance, z_tuple, z_list, z_dict, z_str, z_bool, z_sorted, z_zip, z_enumerate, z_all, z_max, z_min, z_sum, z_any⟩
  have TF : FldT K w mg (He.ga K "FIELDS") := ⟨mFIELDS, c.t.tab 0 (t := (fun K => He.ga K "FIELDS", fieldsT.map (·.1))) rfl, fun p hp => fldB_ok (List.all_eq_true.mp c.more p hp), fun z hz => by
    have e : (hTs.map fun t => He.dicW K (t.1 K)) = hTs.map fun t => some (He.keysIn w.params t.2) := congrArg (fun z : He.AlT => z.2) c.t
    exact no_key (List.cons.inj e).1 hz⟩
  have PC : PCls K mg (He.ga K "Program") := ⟨mProgram, hCls, n_rows_of, n_spots⟩
  have e := hfa.symm.trans mLaw
  cases e
  refine ⟨fdLaw, fun s v => FunD.bindsA (ps := ["_law_script"]) F0Law (fun _ _ _ _ _ _ us hl => match us, hl with | [_], _ => rfl) s [v] rfl, fun base _ _ => ?_⟩
  have gLDraw := own_mk (k := 1) (P := P) (w := w) (base := base) FLDraw mLDraw bLDraw (ok_LDraw FLDraw B)
  have gLSource := own_mk (k := 1) (P := P) (w := w) (base := base) FLSource mLSource bLSource (ok_LSource FLSource B)
  have gLPick := own_mk FLPick mLPick bLPick (ok_LPick FLPick B gLDraw)
  have gIsInteger := own_mk (k := 1) (P := P) (w := w) (base := base) FIsInteger mIsInteger bIsInteger (ok_IsInteger FIsInteger B)
  have gIsWord := own_mk (k := 1) (P := P) (w := w) (base := base) FIsWord mIsWord bIsWord (ok_IsWord FIsWord B mL)
  have gIsField := own_mk FIsField mIsField bIsField (ok_IsField FIsField B gIsWord gIsInteger)
  have gIsRow := own_mk FIsRow mIsRow bIsRow (ok_IsRow FIsRow B TF gIsField)
  have gBlocksOf := own_mk (P := P) (w := w) (base := base) FBlocksOf mBlocksOf bBlocksOf (ok_BlocksOf (k := 0) FBlocksOf B TF)
  have gFirstWrong := firstWrong_ok FFirstWrong B mFirstWrong bFirstWrong (gIsRow.mono (by decide)) gBlocksOf 3
  have gCheckModules := own_mk FCheckModules mCheckModules bCheckModules (ok_CheckModules (k := 8) FCheckModules B (by decide) gIsWord gFirstWrong)
  have gFrozen := frozen_ok (P := P) (w := w) (base := base) FFrozen B TF mFrozen bFrozen 3
  have gWalked := walked_ok FWalked B mWalked bWalked gBlocksOf 3
  have gProgram : OwnC P w K mg base 10 "Program" (He.ga K "Program") ["self", "modules"] (spProgramInit (He.ga K "Program")) := ⟨_, _, hMk, ok_ProgramInit (k := 9) FProgramInit B PC (by decide) gCheckModules gFrozen gWalked, mProgram, bProgramInit⟩
  have gLSame := lsame_ok (P := P) (w := w) (base := base) FLSame B mLSame bLSame 3
  have gLWalked := lwalked_ok (P := P) (w := w) (base := base) FLWalked B mLWalked bLWalked 3
  have gLSomeImport := own_mk FLSomeImport mLSomeImport bLSomeImport (ok_SomeImport (k := 3) FLSomeImport B (by decide) (gLPick.mono (by decide)))
  have gLRings := own_mk FLRings mLRings bLRings (ok_LRings (k := 7) FLRings B (by decide) gLWalked)
  have gNamedModules := named_ok (P := P) (w := w) (base := base) FNamedModules B mNamedModules bNamedModules 3
  have gReachedFrom := own_mk FReachedFrom mReachedFrom bReachedFrom (ok_ReachedFrom (k := 5) FReachedFrom B PC (by decide) gNamedModules)
  have gRings := own_mk FRings mRings bRings (ok_Rings (k := 7) FRings B PC (by decide) gReachedFrom)
  exact ok_law (k := 20) FLaw B (by decide) (gLSource.mono (by decide)) (gLDraw.mono (by decide)) (gLPick.mono (by decide)) gLSomeImport gProgram gLRings gRings (gLSame.mono (by decide))
end Ft
open PySem PySem.W PySem.Calls PyProof.Rows
set_option maxRecDepth 100000 in
set_option maxHeartbeats 0 in
theorem PySem.Challenge.cw_firsttouch_k55_rings_told_holds : PySem.Challenge.rw_firsttouch_k55_rings_told.Holds := by
  w_on; o_law
  refine HandSHeadRun.head_any (r := Ft.hR) (q := view Ft.hR.prog [Ft.lawIx]) (H := Ft.hHk) (ob := Ft.hOb) (M := Ft.topM) (loose := Ft.hNames) (d := HandSHeadRun.topDef Ft.hR.prog Ft.lawIx) (kwd := []) Ft.hOb_eq
    (by kernel_rfl) (fun s => by kernel_rfl) Ft.hRun (by kernel_rfl) (by kernel_rfl) (by kernel_rfl) (by rfl) (by first | assumption | decide +kernel) (by decide +kernel) ⟨rfl, rfl, rfl, rfl, rfl, by decide +kernel⟩ ?hw ?hc
  case hw => w_witness2
  case hc =>
    refine L2.walk_ofE (l := PySem.Challenge.rw_firsttouch_k55_rings_told) (n := 63) (k := 21) (x := "_law_script") (CX := L2.CX0) rfl (by decide) (by kernel_rfl) ⟨rfl, by decide, by decide⟩ ?F (fun _ _ _ _ z => z)
    intro w mg fa h Y G hmg0
    obtain ⟨K, KX, c⟩ := Y
    have hmg : mg ("law" : PySem.Str) = some (.ref fa) := by
      have e : (HandSHeadRun.topDef Ft.hR.prog Ft.lawIx).name = ("law" : PySem.Str) := by kernel_rfl
      rw [← e]
      exact hmg0
    obtain ⟨fd, hb, hF⟩ := Ft.facts (P := (PySem.Challenge.rw_firsttouch_k55_rings_told).prog) (w := w) KX G hmg c
    exact ⟨K, fd, Ft.spLaw K, KX, hb, fun H a ns hl _ hS => ⟨a, ns, rfl, hS, fun _ => rfl⟩, hF⟩
