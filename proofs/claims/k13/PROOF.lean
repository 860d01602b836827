import PyProof.Rows.All
import Wide.All
import OpenK.AllK
import Wide.FinOn
import HandS.ForMost
import HandS.Walk
import HandS.Zip
import HandS.IsInst
import KE.GoesMore
import KE.GoesZip
import KE.GoesEnum
import HandS.Codes
import HandS.TupAny
import HandS.Deep
import HandS.HeadEnd
import PyProof.ReprRoads
import HandS.More
import HandS.RaiseMore
import HandS.Text
import HandS.Wide
import PySem.Challenge.RW_firsttouch_k13_late_sets_made
import HandS.SuiteRaise
import HandS.ExcCtx
import KE.KExcRaise
import HandS.DictComp
import KE.SortData
import HandS.ExcInit
import HandS.ExcField
import HandS.WordsExc
import KE.KDictKeyed
import HandS.SetFor
import PyProof.SeqRoads2
import HandS.TryMany
import HandS.Lambda
import HandS.OwnEq
import PyProof.InstNe
import HandS.ClsMeth
import HandS.SlotsOwn
import HandS.Small
import OpenK.KMeth
import OpenK.KOps
import PyProof.SumWalkG
import PyProof.ListOps
import PyProof.Rows.SumAny
import HandS.ExcValue
import PyProof.ExcBaseAll.ValueError
import KE.KeyNested
import KE.KDictPairs
import KE.KDictZip
import HandS.Style
import KE.DataMinMax
import PyProof.Rows.RowBridgeK
import KE.DatumOrd
import HandS.ExcOwn
import HandS.EndOwn
import HandS.DeepEq
import HandS.DictEq
import KE.KIntText
import PyProof.Rows.StrIntSpec
import KE.KStateDown
import HandS.Defaults
import HandS.Head0
import HandS.Head1
import HandS.Head2
import HandS.HeadHook1
import HandS.HeadHook2
import HandS.HeadHook3
import HandS.HeadHook4
import HandS.HeadNt
set_option Elab.async false
set_option linter.all false
set_option maxRecDepth 100000
set_option maxHeartbeats 4000000
namespace Ft
open PySem PySem.Spec PyProof.Rows L2
/-- a list (true) or a tuple (false) -/
def Sq (kd : Bool) (K : PySem.W.Frag) (H : Hp) (a : Addr) (xs : List V) : Prop := match kd with
  | true => SqL K H a xs
  | false => SqT K H a xs
def SIter (kd : Bool) (h : Heap) (it l : Addr) (i : Nat) : Prop := match kd with
  | true => h.IsListIter it l i
  | false => h.IsTupleIter it l i
def SAt (kd : Bool) (h : Heap) (l : Addr) (items : Array Value) : Prop := match kd with
  | true => h.IsList l items
  | false => h.IsTuple l items
def sIterO (kd : Bool) (l : Addr) : Obj := match kd with
  | true => { cls := .type "list_iterator", data := .fields #[.ref l, .int 0 0] }
  | false => { cls := .type "tuple_iterator", data := .fields #[.ref l, .int 0 0] }
theorem sdraws (kd : Bool) {prog : Program} {w : World} {A : Around} (hh : A.handled = none) (it l : Addr) (hne : l ≠ it) (items : Array Value) :
    Draws prog w A it [it, l] items.size (fun i v => items[i]? = some v) (fun i h => SIter kd h it l i ∧ SAt kd h l items) := by
  cases kd with
  | true => exact Draws.list hh it l hne items
  | false => exact Draws.tuple hh it l hne items
theorem sbegins (kd : Bool) (l : Addr) (items : Array Value) : Begins (.ref l) (sIterO kd l) fun h => SAt kd h l items := by
  cases kd with
  | true => exact begins_list l items
  | false => exact begins_tuple l items
theorem siter0 {kd : Bool} {h : Heap} {it l : Addr} (e : h.get? it = some (sIterO kd l)) : SIter kd h it l 0 := by
  cases kd with
  | true => exact ⟨_, e, rfl, rfl⟩
  | false => exact ⟨_, e, rfl, rfl⟩
theorem SIter.at {kd : Bool} {h h' : Heap} {it l : Addr} {i : Nat} (x : SIter kd h it l i) (k : ∀ o, h.get? it = some o → h'.get? it = some o) : SIter kd h' it l i := by
  cases kd with
  | true => exact Heap.IsListIter.at x k
  | false => exact Heap.IsTupleIter.at x k
theorem SIter.obj {kd : Bool} {h : Heap} {it l : Addr} {i : Nat} (x : SIter kd h it l i) : ∃ o, h.get? it = some o ∧ ∀ v, o.data ≠ .cell v := by
  cases kd with
  | true =>
    obtain ⟨o, ho, hc, hd⟩ := x
    exact ⟨o, ho, fun v q => by rw [hd] at q; cases q⟩
  | false =>
    obtain ⟨o, ho, hc, hd⟩ := x
    exact ⟨o, ho, fun v q => by rw [hd] at q; cases q⟩
section
variable {X : Cx} {pins : List (Addr × Obj)} {σ : L2.St} {H : Hp} {s : Shared} {a : Addr} {xs ys : List V}
theorem sq_at {kd : Bool} (I : Inv X pins σ H s) (h : Sq kd X.K H a xs) : ∃ its : List Value, Vals xs its ∧ SAt kd s.heap a its.toArray ∧ xs.length ≤ sizeLine := by
  cases kd with
  | true =>
    obtain ⟨its, rv, p, hz⟩ := I.list h
    exact ⟨its, rv, p.isList, hz⟩
  | false =>
    obtain ⟨its, rv, p, hz⟩ := I.tuple h
    exact ⟨its, rv, p, hz⟩
theorem sq_inj {kd : Bool} (I : Inv X pins σ H s) (h : Sq kd X.K H a xs) (h' : Sq kd X.K H a ys) : xs = ys := by
  cases kd with
  | true => exact I.list_inj h h'
  | false => exact I.tuple_inj h h'
theorem SAt.lt {kd : Bool} {h : Heap} {its : Array Value} (x : SAt kd h a its) : a < h.objs.size := by
  cases kd with
  | true => obtain ⟨o, ho, _⟩ := x; exact Heap.lt_size ho
  | false => obtain ⟨o, ho, _⟩ := x; exact Heap.lt_size ho
end
def ItzQ (ka kb : Bool) (K : PySem.W.Frag) (a b : Addr) : It :=
  ⟨fun i H => ∃ (xs ys : List V) (x y : V), Sq ka K H a xs ∧ Sq kb K H b ys ∧ xs[i]? = some x ∧ ys[i]? = some y,
    fun i H v H' => ∃ T x y, v = .ref T ∧ H T = none ∧ H' = upd H T (.tup [x, y]) ∧ (∀ xs, Sq ka K H a xs → xs[i]? = some x) ∧ ∀ ys, Sq kb K H b ys → ys[i]? = some y,
    fun i H => ∃ xs ys : List V, Sq ka K H a xs ∧ Sq kb K H b ys ∧ i ≤ xs.length ∧ i ≤ ys.length ∧ (i = xs.length ∨ i = ys.length)⟩
theorem turn_zipQ {P : Program} {w : World} {K : PySem.W.Frag} {elts : List Expr} {kk : Nat} {tpos : Pos} {ka kb : Bool} {a b z TI TO i1 i2 : Addr} (D : ZipSep2 z TI TO i1 i2 [i1, a] [i2, b]) (na : a ≠ i1) (nb : b ≠ i2) :
    Turn P w K (.Tuple elts kk tpos) (ItzQ ka kb K a b) [z, TI, TO, i1, i2] z (fun i h => IsZip h z TI TO .none ∧ IsTupOf2 h TI (.ref i1) (.ref i2) ∧ (∃ x y, IsTupOf2 h TO x y) ∧ SIter ka h i1 a i ∧ SIter kb h i2 b i) where
  mem := by simp
  obj := fun i h st c hc => by
    obtain ⟨hz, hTI, ⟨x, y, hTO⟩, h1, h2⟩ := st
    have e' : c = z ∨ c = TI ∨ c = TO ∨ c = i1 ∨ c = i2 := by simpa using hc
    rcases e' with q | q | q | q | q
    · rw [q]; exact ⟨_, hz, fun v q => nomatch q⟩
    · rw [q]; exact ⟨_, hTI, fun v q => nomatch q⟩
    · rw [q]; exact ⟨_, hTO, fun v q => nomatch q⟩
    · rw [q]; exact h1.obj
    · rw [q]; exact h2.obj
  keep := fun i h h' st k => by
    obtain ⟨hz, hTI, ⟨x, y, hTO⟩, h1, h2⟩ := st
    exact ⟨k z (by simp) _ hz, k TI (by simp) _ hTI, ⟨x, y, k TO (by simp) _ hTO⟩, h1.at fun o q => k i1 (by simp) o q, h2.at fun o q => k i2 (by simp) o q⟩
  item := by
    intro X hP hw hK hc i pins s σ H E I hf st hg
    subst hP hw hK
    obtain ⟨hz, hTI, ⟨x0, y0, hTO⟩, h1, h2⟩ := st
    obtain ⟨xs, ys, x, y, hqx, hqy, hx, hy⟩ := hg
    obtain ⟨its, rv, p, _⟩ := sq_at I hqx
    obtain ⟨its2, rv2, p2, _⟩ := sq_at I hqy
    have hh : X.A.in1.handled = none := I.ok.hd hc
    have D1 := sdraws ka (prog := X.prog) (w := X.w) hh i1 a na its.toArray
    have D2 := sdraws kb (prog := X.prog) (w := X.w) hh i2 b nb its2.toArray
    obtain ⟨u, hu, ru⟩ := rv.get hx
    obtain ⟨u2, hu2, ru2⟩ := rv2.get hy
    have hzl : z < s.heap.objs.size := Heap.lt_size hz
    have l1 : i < its.toArray.size := by
      have := (List.getElem?_eq_some_iff.mp hu).1
      simpa using this
    have l2 : i < its2.toArray.size := by
      have := (List.getElem?_eq_some_iff.mp hu2).1
      simpa using this
    refine wpAny_pyNext_zipD2_item D D1 D2 hz hTI hTO ⟨h1, p⟩ ⟨h2, p2⟩ l1 l2 fun v1 v2 h' tk e1 e2 z' TO' h1' h2' hT hsz hk => ?_
    have e1' : u = v1 := by
      have q : its[i]? = some v1 := by simpa using e1
      rw [hu] at q; exact Option.some.inj q
    have e2' : u2 = v2 := by
      have q : its2[i]? = some v2 := by simpa using e2
      rw [hu2] at q; exact Option.some.inj q
    subst e1' e2'
    refine ⟨_, rfl, wpAny_letOwnedTupleGo_zip (s := { s with heap := h', toks := tk }) z' fun h'' z'' sb => ?_⟩
    have hT2 : h''.get? s.heap.objs.size = some { cls := .type "tuple", data := .seq #[u, u2] } := (sb.2 _ (Nat.ne_of_gt hzl)).trans hT
    have new : ObjOk X.prog X.w (upd H s.heap.objs.size (.tup [x, y])) h'' s.heap.objs.size (.tup [x, y]) :=
      ⟨by show 2 ≤ sizeLine; decide, [u, u2], .cons ru (.cons ru2 .nil), ⟨_, hT2, rfl, _, rfl⟩⟩
    have I1 : Inv X pins σ (upd H s.heap.objs.size (.tup [x, y])) { s with heap := h'', toks := tk } :=
      I.turnedNew (t' := tk) (ch := [z, TI, TO, i1, i2]) (fun c o hb q => (sb.2 c (fun q' => hb (by simp [q']))).trans (hk c o (fun q' => hb (by simp [q'])) (fun q' => hb (by simp [q'])) (fun q' => hb (by simp [q'])) (fun q' => hb (by simp [q'])) q)) hf (Nat.le_refl _) new
    refine ⟨.ref s.heap.objs.size, _, I1, rfl, ⟨_, x, y, rfl, I.hok.fresh (Nat.le_refl _), rfl, fun l hl => by rw [sq_inj I hl hqx]; exact hx, fun l hl => by rw [sq_inj I hl hqy]; exact hy⟩, ⟨z'', ?_, ⟨u, u2, ?_⟩, ?_, ?_⟩, fun c hcm => ?_⟩
    · exact (sb.2 _ D.TIz).trans (hk _ _ D.TIz D.TITO D.TIi1 D.TIi2 hTI)
    · exact (sb.2 _ D.TOz).trans TO'
    · exact h1'.1.at fun o q => (sb.2 _ D.zi1.symm).trans q
    · exact h2'.1.at fun o q => (sb.2 _ D.zi2.symm).trans q
    · have hlt : c < s.heap.objs.size := by
        have e' : c = z ∨ c = TI ∨ c = TO ∨ c = i1 ∨ c = i2 := by simpa using hcm
        rcases e' with q | q | q | q | q
        · rw [q]; exact hzl
        · rw [q]; exact Heap.lt_size hTI
        · rw [q]; exact Heap.lt_size hTO
        · rw [q]; obtain ⟨_, e1, _⟩ := h1.obj; exact Heap.lt_size e1
        · rw [q]; obtain ⟨_, e2, _⟩ := h2.obj; exact Heap.lt_size e2
      rw [upd_ne (Nat.ne_of_lt hlt)]
      exact (hf c hcm).1
  done := by
    intro X hP hw hK hc i pins s σ H E I hf st hg
    subst hP hw hK
    obtain ⟨hz, hTI, ⟨x0, y0, hTO⟩, h1, h2⟩ := st
    obtain ⟨xs, ys, hqx, hqy, le1, le2, hend⟩ := hg
    obtain ⟨its, rv, p, _⟩ := sq_at I hqx
    obtain ⟨its2, rv2, p2, _⟩ := sq_at I hqy
    have hh : X.A.in1.handled = none := I.ok.hd hc
    have D1 := sdraws ka (prog := X.prog) (w := X.w) hh i1 a na its.toArray
    have D2 := sdraws kb (prog := X.prog) (w := X.w) hh i2 b nb its2.toArray
    have l1 := rv.length
    have l2 := rv2.length
    have z1 : its.toArray.size = its.length := by simp
    have z2 : its2.toArray.size = its2.length := by simp
    exact wpAny_pyNext_zipD2_end D D1 D2 hz hTI hTO ⟨h1, p⟩ ⟨h2, p2⟩ (by omega) (by omega) (by omega) fun h' tk hk => ⟨rfl, I.turnedL (t' := tk) (ch := [z, TI, TO, i1, i2]) (fun c o hb q =>
      hk c o (fun q' => hb (by simp [q'])) (fun q' => hb (by simp [q'])) (fun q' => hb (by simp [q'])) (fun q' => hb (by simp [q'])) q) hf⟩
  self := fun A i s Q E st h => wpAny_pyIter_zip st.1 h
def iZipQ (K : PySem.W.Frag) (ta : TA) : TI := fun σ H R => ta σ H fun vs H1 => ∃ a b ka kb xs ys, vs = [.ref a, .ref b] ∧ Sq ka K H1 a xs ∧ Sq kb K H1 b ys ∧ R (ItzQ ka kb K a b) H1
theorem pi_zipQ {X : Cx} {e e2 : Expr} {ta : TA} {p pos tpos : Pos} {elts : List Expr} {kk : Nat} (hg : Gl X "zip") (hm : X.mg "zip" = none) (ha : PA X [e, e2] ta)
    (hs : starEach [e, e2] X.env = (false, eval e X.env) :: starEach [e2] X.env := by rfl) (hpl : (backTo pos (starEach [e2] X.env)).any (·.1) = false := by rfl) :
    PI X (.Tuple elts kk tpos) (.Call (.Name "zip" p) [e, e2] [] pos) (iZipQ X.K ta) := by
  refine ⟨fun pins s σ H R I h => ?_⟩
  refine Call_ (ld_blt I hg hm PyProof.Rows.boot_zip (PyProof.Rows.callWith_type1 (thn (ha.run pos pins s σ H _ I h) fun us s1 ⟨vs, H1, I1, r1, q1⟩ => ?_) hs hpl))
  obtain ⟨a, b, ka, kb, xs, ys, ex, hqx, hqy, q⟩ := q1
  subst ex
  cases r1 with
  | cons r rr =>
    cases rr with
    | cons r' rr =>
      cases rr
      cases r
      cases r'
      have fresh5 : ∀ c, c ∈ [s1.heap.objs.size + 4, s1.heap.objs.size + 2, s1.heap.objs.size + 3, s1.heap.objs.size, s1.heap.objs.size + 1] → FpOk X pins H1 c := fun c hcm => by
        have e' : c = s1.heap.objs.size + 4 ∨ c = s1.heap.objs.size + 2 ∨ c = s1.heap.objs.size + 3 ∨ c = s1.heap.objs.size ∨ c = s1.heap.objs.size + 1 := by simpa using hcm
        have hle : s1.heap.objs.size ≤ c := by
          rcases e' with z | z | z | z | z
          · rw [z]; exact Nat.le_add_right _ _
          · rw [z]; exact Nat.le_add_right _ _
          · rw [z]; exact Nat.le_add_right _ _
          · rw [z]; exact Nat.le_refl _
          · rw [z]; exact Nat.le_add_right _ _
        exact I1.fpOk hle (I1.hok.fresh hle)
      obtain ⟨its, rv, p1, _⟩ := sq_at I1 hqx
      obtain ⟨its2, rv2, p2, _⟩ := sq_at I1 hqy
      have la := p1.lt
      have lb := p2.lt
      refine zip_begins2 (sbegins ka a its.toArray) (sbegins kb b its2.toArray) p1 p2 fun h' hz hTI hTO h1 h2 hsz hk => wpAny_pyIter_zip hz ?_
      have I2 : Inv X pins σ H1 { s1 with heap := h' } := I1.kept (t' := s1.toks) hk
      have one : ∀ {c d : Addr}, d < s1.heap.objs.size → c ∈ [d] → c < s1.heap.objs.size := fun {c d} hd hc => by
        have e : c = d := by simpa using hc
        rw [e]; exact hd
      exact ⟨s1.heap.objs.size + 4, [s1.heap.objs.size + 4, s1.heap.objs.size + 2, s1.heap.objs.size + 3, s1.heap.objs.size, s1.heap.objs.size + 1], _, _, H1, rfl, I2, turn_zipQ (zip_sep2 (fun c hc => one la hc) (fun c hc => one lb hc)) (Nat.ne_of_lt la) (Nat.ne_of_lt (Nat.lt_succ_of_lt lb)), ⟨hz, hTI, ⟨_, _, hTO⟩, siter0 h1, siter0 h2⟩, fresh5, q⟩
theorem walk_zipQ {K : PySem.W.Frag} {ka kb : Bool} {a b : Addr} {xs ys : List V} {n : Nat} (hn : n = min xs.length ys.length) : Walk (ItzQ ka kb K a b) n (fun H => Sq ka K H a xs ∧ Sq kb K H b ys) (YPair (fun i => xs[i]?) (fun i => ys[i]?)) :=
  ⟨fun i H hi ⟨h1, h2⟩ => ⟨xs, ys, _, _, h1, h2, List.getElem?_eq_getElem (by omega), List.getElem?_eq_getElem (by omega)⟩, fun H ⟨h1, h2⟩ => ⟨xs, ys, h1, h2, by omega, by omega, by omega⟩,
    fun i H x H' hi ⟨h1, h2⟩ ⟨T, u, v, e1, e2, e3, e4, e5⟩ => ⟨T, u, v, e1, e2, e3, e4 _ h1, e5 _ h2⟩⟩
def ItQ (kd : Bool) (K : PySem.W.Frag) (a : Addr) : It := match kd with
  | true => Itl K a
  | false => Itt K a
def iSeq (K : PySem.W.Frag) (te : TE) : TI := fun σ H R => te σ H fun v H1 => ∃ a kd xs, v = .ref a ∧ Sq kd K H1 a xs ∧ R (ItQ kd K a) H1
theorem pi_seq {X : Cx} {tg l : Expr} {tl : TE} (hl : PE X l tl) : PI X tg l (iSeq X.K tl) := by
  refine ⟨fun pins s σ H R I h => ?_⟩
  refine thn (hl.run pins s σ H _ I h) fun v s1 ⟨x, H1, I1, r1, q1⟩ => ?_
  obtain ⟨a, kd, xs, e, hq, q⟩ := q1
  subst e
  cases r1
  cases kd with
  | true =>
    obtain ⟨its, rv, p, hz⟩ := I1.list hq
    refine wpAny_pyIter_list p.isList ?_
    refine ⟨s1.heap.objs.size, [s1.heap.objs.size], _, _, H1, rfl, I1.kept (t' := s1.toks) fun b o e => Heap.get?_push_of_some _ e, turn_list a _, ⟨_, Heap.get?_push_size _ rfl, rfl, rfl⟩, fun b hb => ?_, q⟩
    have e : b = s1.heap.objs.size := by simpa using hb
    subst e
    exact I1.fpOk (Nat.le_refl _) (I1.hok.fresh (Nat.le_refl _))
  | false =>
    obtain ⟨its, rv, p, hz⟩ := I1.tuple hq
    refine wpAny_pyIter_tuple (show s1.heap.IsTuple a its.toArray from p) ?_
    refine ⟨s1.heap.objs.size, [s1.heap.objs.size], _, _, H1, rfl, I1.kept (t' := s1.toks) fun b o e => Heap.get?_push_of_some _ e, turn_tuple a _, ⟨_, Heap.get?_push_size _ rfl, rfl, rfl⟩, fun b hb => ?_, q⟩
    have e : b = s1.heap.objs.size := by simpa using hb
    subst e
    exact I1.fpOk (Nat.le_refl _) (I1.hok.fresh (Nat.le_refl _))
theorem walk_seq {K : PySem.W.Frag} {kd : Bool} {a : Addr} {xs : List V} : Walk (ItQ kd K a) xs.length (fun H => Sq kd K H a xs) (YAt xs) := by
  cases kd with
  | true => exact walk_list
  | false => exact walk_tup
def IteQ (kd : Bool) (K : PySem.W.Frag) (a : Addr) : It :=
  ⟨fun i H => ∃ xs x, Sq kd K H a xs ∧ xs[i]? = some x,
    fun i H v H' => ∃ T x, v = .ref T ∧ H T = none ∧ H' = upd H T (.tup [.int (i : Nat), x]) ∧ ∀ xs, Sq kd K H a xs → xs[i]? = some x,
    fun i H => ∃ xs, Sq kd K H a xs ∧ i = xs.length⟩
theorem turn_enumQ {P : Program} {w : World} {K : PySem.W.Frag} {elts : List Expr} {kk : Nat} {tpos : Pos} {kd : Bool} {a e it : Addr} (na : a ≠ it) (nae : e ≠ a) :
    Turn P w K (.Tuple elts kk tpos) (IteQ kd K a) [e, it] e (fun i h => (∃ old, IsEnum h e it ((i : Nat) : Int) old) ∧ SIter kd h it a i ∧ e ≠ it) where
  mem := by simp
  obj := fun i h st b hb => by
    obtain ⟨⟨old, he⟩, hi, _⟩ := st
    have e' : b = e ∨ b = it := by simpa using hb
    rcases e' with z | z
    · rw [z]; exact ⟨_, he, fun v q => nomatch q⟩
    · rw [z]; exact hi.obj
  keep := fun i h h' st k => let ⟨⟨old, he⟩, hi, hne⟩ := st; ⟨⟨old, k e (by simp) _ he⟩, hi.at fun o q => k it (by simp) o q, hne⟩
  item := by
    intro X hP hw hK hc i pins s σ H E I hf st hg
    subst hP hw hK
    obtain ⟨⟨old, he⟩, hit, hne⟩ := st
    obtain ⟨xs, x, hq, hx⟩ := hg
    obtain ⟨its, rv, p, hz⟩ := sq_at I hq
    obtain ⟨u, hu, ru⟩ := rv.get hx
    have hh : X.A.in1.handled = none := I.ok.hd hc
    have D := sdraws kd (prog := X.prog) (w := X.w) hh it a na its.toArray
    have hel : e < s.heap.objs.size := Heap.lt_size he
    have hil : it < s.heap.objs.size := by obtain ⟨_, q, _⟩ := hit.obj; exact Heap.lt_size q
    have l1 : i < its.toArray.size := by
      have := (List.getElem?_eq_some_iff.mp hu).1
      simpa using this
    refine wpAny_pyNext_enum_itemD D he ⟨hit, p⟩ l1 hne (by simp [hne, nae]) fun v h' tk e1 ho hit' hT hsz hk => ?_
    have e1' : u = v := by
      have q : its[i]? = some v := by simpa using e1
      rw [hu] at q; exact Option.some.inj q
    subst e1'
    refine ⟨_, rfl, wpAny_letOwnedTupleGo_enum (s := { s with heap := h', toks := tk + 1 }) ho fun h'' he' sb => ?_⟩
    have hT2 : h''.get? s.heap.objs.size = some { cls := .type "tuple", data := .seq #[.int i tk, u] } := (sb.2 _ (Nat.ne_of_gt hel)).trans hT
    have new : ObjOk X.prog X.w (upd H s.heap.objs.size (.tup [.int (i : Nat), x])) h'' s.heap.objs.size (.tup [.int (i : Nat), x]) :=
      ⟨by show 2 ≤ sizeLine; decide, [.int i tk, u], .cons ⟨_, rfl⟩ (.cons ru .nil), ⟨_, hT2, rfl, _, rfl⟩⟩
    have I1 : Inv X pins σ (upd H s.heap.objs.size (.tup [.int (i : Nat), x])) { s with heap := h'', toks := tk + 1 } :=
      I.turnedNew (ch := [e, it]) (fun b ob hb q => (sb.2 b (fun z => hb (by simp [z]))).trans (hk b ob (fun z => hb (by simp [z])) (fun z => hb (by simp [z])) q)) hf (Nat.le_refl _) new
    refine ⟨.ref s.heap.objs.size, _, I1, rfl, ⟨_, x, rfl, I.hok.fresh (Nat.le_refl _), rfl, fun ys hy => by rw [sq_inj I hy hq]; exact hx⟩, ⟨⟨u, ?_⟩, hit'.1.at fun o q => (sb.2 it (Ne.symm hne)).trans q, hne⟩, fun b hb => ?_⟩
    · have e1 : ((i + 1 : Nat) : Int) = (i : Int) + 1 := by omega
      rw [e1]; exact he'
    · have hb' : b < s.heap.objs.size := by
        have e' : b = e ∨ b = it := by simpa using hb
        rcases e' with z | z
        · rw [z]; exact hel
        · rw [z]; exact hil
      rw [upd_ne (Nat.ne_of_lt hb')]
      exact (hf b hb).1
  done := by
    intro X hP hw hK hc i pins s σ H E I hf st hg
    subst hP hw hK
    obtain ⟨⟨old, he⟩, hit, hne⟩ := st
    obtain ⟨xs, hq, hx⟩ := hg
    obtain ⟨its, rv, p, hz⟩ := sq_at I hq
    have hh : X.A.in1.handled = none := I.ok.hd hc
    have D := sdraws kd (prog := X.prog) (w := X.w) hh it a na its.toArray
    obtain ⟨f0, f1, f2, f3, f4, f5⟩ := hf it (by simp)
    have hl := rv.length
    have ei : i = its.toArray.size := by simp; omega
    subst ei
    exact wpAny_pyNext_enum_endD D he ⟨hit, p⟩ fun h' eb => ⟨rfl, I.turned (t' := s.toks) (fun b o hb q => eb b o hb q) f0 f1 f3 f4 f5⟩
  self := fun A i s Q E st h => let ⟨⟨_, he⟩, _⟩ := st; wpAny_pyIter_enum he h
theorem meets_enumerate_newB1 {v : Value} {o : Obj} {H : Heap → Prop} (B : Begins v o H) :
    Meets (Builtin.«enumerate.__new__» ⟨[.type "enumerate", v], []⟩) (fun _ R s => H s.heap ∧
      R (.ok (.ret (.ref (s.heap.push o).objs.size))) { s with heap := (s.heap.push o).push { cls := .type "enumerate", data := .fields #[.none, .bool false, .ref s.heap.objs.size, rawInt 0, .none, .none] } }) :=
  .of_wp fun prog w A R s h => by
    obtain ⟨hp, g, d, tk, os⟩ := s; obtain ⟨h1, h⟩ := h
    have hsub := sub_enumerate
    have q1 : ∀ {A' : Around} {E : Value → Shared → Prop} {Q : Value → Shared → Prop}, Q (.ref hp.objs.size) ⟨hp.push o, g, d, tk, os⟩ → wpAny (model prog w) A' (pyIter v) Q E ⟨hp, g, d, tk, os⟩ :=
      fun q => B.iter prog w _ _ ⟨hp, g, d, tk, os⟩ _ h1 q
    wp_walk using q1
    refine wpAny_stack_any fun st => wpAny_pure ?_
    split
    · rename_i c _ _ _ _ _
      cases (c == Value.type "enumerate")
      · wp_walk using q1
        exact ⟨_, rfl, h⟩
      · wp_walk using q1
        exact ⟨_, rfl, h⟩
    · wp_walk using q1
      exact ⟨_, rfl, h⟩
theorem enum_begins1 {prog : Program} {w : World} {A : Around} {E : Value → Shared → Prop} {s : Shared} {v : Value} {o : Obj} {H : Heap → Prop} {Q : Value → Shared → Prop} (B : Begins v o H) (h1 : H s.heap)
    (h : ∀ h', IsEnum h' (s.heap.objs.size + 1) s.heap.objs.size 0 .none → h'.get? s.heap.objs.size = some o → h'.objs.size = s.heap.objs.size + 2 →
      (∀ b o, s.heap.get? b = some o → h'.get? b = some o) → Q (.ref (s.heap.objs.size + 1)) { s with heap := h' }) :
    wpAny (model prog w) A (call (.type "enumerate") [v]) Q E s := by
  refine callType_new F.called_enumerate (by decide) (F.typeCall_enumerate_1 _) (F.newCall_enumerate_1 _) (fun obj => F.args_object_init_2 obj _) F.entry_enumerate_new
    (meets_enumerate_newB1 B) ⟨h1, ?_⟩
  have hz : (s.heap.push o).objs.size = s.heap.objs.size + 1 := Heap.size_push ..
  show _ ∧ _
  rw [hz]
  have he : IsEnum ((s.heap.push o).push { cls := .type "enumerate", data := .fields #[.none, .bool false, .ref s.heap.objs.size, rawInt 0, .none, .none] }) (s.heap.objs.size + 1) s.heap.objs.size 0 .none := by
    have := Heap.get?_push_size (s.heap.push o) (o := { cls := .type "enumerate", data := .fields #[.none, .bool false, .ref s.heap.objs.size, rawInt 0, .none, .none] }) rfl
    rw [hz] at this; exact this
  refine ⟨⟨_, he, rfl⟩, h _ he (Heap.get?_push_of_some _ (Heap.get?_push_size _ B.free)) (by rw [Heap.size_push, hz]) fun b o x => Heap.get?_push_of_some _ (Heap.get?_push_of_some _ x)⟩
def iEnumQ (K : PySem.W.Frag) (ta : TA) : TI := fun σ H R => ta σ H fun vs H1 => ∃ a kd xs, vs = [.ref a] ∧ Sq kd K H1 a xs ∧ R (IteQ kd K a) H1
theorem pi_enumQ {X : Cx} {e : Expr} {ta : TA} {p pos tpos : Pos} {elts : List Expr} {kk : Nat} (hg : Gl X "enumerate") (hm : X.mg "enumerate" = none) (ha : PA X [e] ta) (hs : starEach [e] X.env = [(false, eval e X.env)] := by rfl) :
    PI X (.Tuple elts kk tpos) (.Call (.Name "enumerate" p) [e] [] pos) (iEnumQ X.K ta) := by
  refine ⟨fun pins s σ H R I h => ?_⟩
  refine Call_ (ld_blt I hg hm boot_enumerate (PyProof.Rows.callWith_type1 (thn (ha.run pos pins s σ H _ I h) fun us s1 ⟨vs, H1, I1, r1, q1⟩ => ?_) hs rfl))
  obtain ⟨a, kd, xs, ex, hq, q⟩ := q1
  subst ex
  cases r1 with
  | cons r rr =>
    cases rr
    cases r
    obtain ⟨its, rv, p', hz⟩ := sq_at I1 hq
    have la := p'.lt
    refine enum_begins1 (sbegins kd a its.toArray) p' fun h' he hit hsz hk => wpAny_pyIter_enum he ?_
    have I2 : Inv X pins σ H1 { s1 with heap := h' } := I1.kept (t' := s1.toks) hk
    refine ⟨s1.heap.objs.size + 1, [s1.heap.objs.size + 1, s1.heap.objs.size], _, _, H1, rfl, I2, turn_enumQ (Nat.ne_of_lt la) (Nat.ne_of_gt (Nat.lt_succ_of_lt la)), ⟨⟨.none, he⟩, siter0 hit, Nat.succ_ne_self _⟩, fun b hb => ?_, q⟩
    have e' : b = s1.heap.objs.size + 1 ∨ b = s1.heap.objs.size := by simpa using hb
    have hle : s1.heap.objs.size ≤ b := by
      rcases e' with z | z
      · rw [z]; exact Nat.le_add_right _ _
      · rw [z]; exact Nat.le_refl _
    exact I1.fpOk hle (I1.hok.fresh hle)
theorem walk_enumQ {K : PySem.W.Frag} {kd : Bool} {a : Addr} {xs : List V} : Walk (IteQ kd K a) xs.length (fun H => Sq kd K H a xs) (YPair (fun i => some (.int (i : Nat))) (fun i => xs[i]?)) :=
  ⟨fun i H hi h1 => ⟨xs, _, h1, List.getElem?_eq_getElem hi⟩, fun H h1 => ⟨xs, h1, rfl⟩,
    fun i H x H' hi h1 ⟨T, u, e1, e2, e3, e4⟩ => ⟨T, _, u, e1, e2, e3, rfl, e4 _ h1⟩⟩
end Ft
set_option Elab.async false
set_option linter.all false
set_option maxRecDepth 100000
set_option maxHeartbeats 4000000
namespace Ft
open PySem PySem.Spec PyProof.Rows L2
/-- the built-in names that the text uses are the built-ins -/
structure Bl (mg : Str → Option Value) : Prop where
  int : mg "int" = none
  len : mg "len" = none
  range : mg "range" = none
  isinstance : mg "isinstance" = none
  tuple : mg "tuple" = none
  list : mg "list" = none
  dict : mg "dict" = none
  str : mg "str" = none
  bool : mg "bool" = none
  sorted : mg "sorted" = none
  zip : mg "zip" = none
  enumerate : mg "enumerate" = none
  all : mg "all" = none
  max : mg "max" = none
  min : mg "min" = none
  sum : mg "sum" = none
  any : mg "any" = none
/-- a def of the module that keeps its promise -/
structure Own (P : Program) (w : World) (K : PySem.W.Frag) (mg : Str → Option Value) (base : Heap) (k : Nat) (x : Str) (ps : List Str) (sp : Sp) : Prop where
  ex : ∃ (f : Addr) (fd : FuncData), FnOk P w K mg base CX0 k f fd ps sp ∧ mg x = some (.ref f) ∧ PySem.W.keepIn K (.ref f) = true ∧ Binds K fd ps []
theorem Own.mono {P : Program} {w : World} {K : PySem.W.Frag} {mg : Str → Option Value} {base : Heap} {j k : Nat} {x : Str} {ps : List Str} {sp : Sp} (G : Own P w K mg base j x ps sp) (h : j ≤ k) : Own P w K mg base k x ps sp := by
  obtain ⟨f, fd, F, r⟩ := G.ex
  exact ⟨f, fd, F.mono h, r⟩
theorem Own.imp {P : Program} {w : World} {K : PySem.W.Frag} {mg : Str → Option Value} {base : Heap} {k : Nat} {x : Str} {ps : List Str} {sp sp' : Sp} (G : Own P w K mg base k x ps sp) (h : ∀ vs H Q E, sp' vs H Q E → sp vs H Q E) : Own P w K mg base k x ps sp' := by
  obtain ⟨f, fd, F, r⟩ := G.ex
  exact ⟨f, fd, F.imp h, r⟩
section
variable {X : Cx}
theorem pe_own {e : Expr} {es : List Expr} {t : TA} {p pos : Pos} {k : Nat} {x : Str} {ps : List Str} {sp : Sp} (G : Own X.prog X.w X.K X.mg X.base k x ps sp) (hr : Room k X.A) (hg : Gl X x) (ha : PA X (e :: es) t)
    (hdb : (x == ("__debug__" : Str)) = false := by decide) (he : starEach (e :: es) X.env = (false, eval e X.env) :: starEach es X.env := by rfl) (hpl : (backTo pos (starEach es X.env)).any (·.1) = false := by rfl) :
    PE X (.Call (.Name x p) (e :: es) [] pos) (tCall sp [] E0 t) := by
  obtain ⟨f, fd, F, m, kp, b⟩ := G.ex
  exact pe_call F hr hg m kp b .nil pass0 ha hdb he hpl
end
/-- a statement, then the rest, with a word between them -/
def tCut (t u : TS) : TS := fun D σ H => ∃ Mid : L2.St → Hp → Prop, t { D with nx := Mid } σ H ∧ ∀ σ' H', Mid σ' H' → u D σ' H'
theorem pss_cut {X : Cx} {st : Stmt} {rest : List Stmt} {t u : TS} (h1 : PS X st t) (h2 : PSs X rest u) : PSs X (st :: rest) (tCut t u) := by
  refine ⟨fun pins s σ H D I h => ?_⟩
  obtain ⟨Mid, hm, hu⟩ := h
  refine wpAny_execs_cons (thn (h1.run pins s σ H { D with nx := Mid } I hm) fun f s1 q => ?_)
  cases f with
  | next =>
    obtain ⟨σ', H', I', q⟩ := q
    exact h2.run pins s1 σ' H' D I' (hu σ' H' q)
  | ret v => exact q
  | brk => exact q
  | cont => exact q
/-- an expression with a word behind it -/
def tMid (t : TE) : TE := fun σ H Q => ∃ Mid : V → Hp → Prop, t σ H Mid ∧ ∀ v H', Mid v H' → Q v H'
theorem pe_mid {X : Cx} {e : Expr} {t : TE} (h : PE X e t) : PE X e (tMid t) := by
  refine ⟨fun pins s σ H Q I q => ?_⟩
  obtain ⟨Mid, hm, hu⟩ := q
  refine thn (h.run pins s σ H _ I hm) fun v s1 ⟨x, H1, I1, r1, q1⟩ => ?_
  exact ⟨x, H1, I1, r1, hu _ _ q1⟩
def tMidT (t : TT) : TT := fun σ H Q => ∃ Mid : Bool → Hp → Prop, t σ H Mid ∧ ∀ v H', Mid v H' → Q v H'
theorem pt_mid {X : Cx} {e : Expr} {t : TT} (h : PT X e t) : PT X e (tMidT t) := by
  refine ⟨fun pins s σ H Q I q => ?_⟩
  obtain ⟨Mid, hm, hu⟩ := q
  refine thn (h.run pins s σ H _ I hm) fun v s1 ⟨H1, I1, q1⟩ => ?_
  exact ⟨H1, I1, hu _ _ q1⟩
theorem own_mk {P : Program} {w : World} {K : PySem.W.Frag} {mg : Str → Option Value} {base : Heap} {x : Str} {st : Stmt} {f : Addr} {fd : FuncData} {k : Nat} {ps : List Str} {sp : Sp} (F : Fun K x x st f fd) (m : mg x = some (.ref f)) (b : Binds K fd ps []) (ok : FnOk P w K mg base CX0 k f fd ps sp) : Own P w K mg base k x ps sp :=
  ⟨f, fd, ok, m, F.kp, b⟩
theorem fn_false {P : Program} {w : World} {K : PySem.W.Frag} {mg : Str → Option Value} {base : Heap} {f : Addr} {fd : FuncData} {k : Nat} {ps : List Str} : FnOk P w K mg base CX0 k f fd ps (fun _ _ _ _ => False) :=
  ⟨fun _ _ _ _ h => h.elim, fun _ _ _ _ _ _ _ _ _ _ _ _ _ h => h.elim⟩
theorem ixK {X : Cx} {K : PySem.W.Frag} (r : PySem.W.Frag → R2) (h : IxR X (r X.K)) (e : X.K = K) : IxR X (r K) := by subst e; exact h
theorem opK {X : Cx} {K : PySem.W.Frag} {f : Value → Value → Sem Value} (r : PySem.W.Frag → R2) (h : OpR X f (r X.K)) (e : X.K = K) : OpR X f (r K) := by subst e; exact h
theorem callK {X : Cx} {K : PySem.W.Frag} {f : Value} (r : PySem.W.Frag → List V → Hp → VK → Prop) (h : CallR X f (r X.K)) (e : X.K = K) : CallR X f (r K) := by subst e; exact h
theorem pi_listK {X : Cx} {K : PySem.W.Frag} {tg l : Expr} {tl : TE} (hl : PE X l tl) (k : X.K = K) : PI X tg l (iList K tl) := by subst k; exact pi_list hl
def Fr (ok : Addr → Prop) (H H' : Hp) : Prop := ∀ b o, ok b → H b = some o → H' b = some o
theorem Fr.refl {ok : Addr → Prop} {H : Hp} : Fr ok H H := fun _ _ _ h => h
theorem Fr.trans {ok : Addr → Prop} {H H1 H2 : Hp} (a : Fr ok H H1) (b : Fr ok H1 H2) : Fr ok H H2 := fun c o k h => b c o k (a c o k h)
theorem Fr.new {ok : Addr → Prop} {H : Hp} {p : Addr} {o : HO} (h : H p = none) : Fr ok H (upd H p o) := fun b u _ e => by
  rw [upd_ne (ne_of_none e h)]; exact e
theorem Fr.put {ok : Addr → Prop} {H : Hp} {p : Addr} {o : HO} (h : ¬ ok p) : Fr ok H (upd H p o) := fun b u k e => by
  rw [upd_ne (show b ≠ p from fun z => h (by rw [← z]; exact k))]; exact e
theorem Fr.mono {ok ok' : Addr → Prop} {H H' : Hp} (a : Fr ok H H') (h : ∀ b, ok' b → ok b) : Fr ok' H H' := fun b o k e => a b o (h b k) e
theorem Fr.same {ok : Addr → Prop} {H H' : Hp} (a : Same H H') : Fr ok H H' := fun b o _ e => a b o e
theorem Fr.free {H H' : Hp} {ok : Addr → Prop} (e : Fr ok H H') {l : Addr} (k : ok l) (h : H' l = none) : H l = none := by
  cases q : H l with
  | none => rfl
  | some o => rw [e l o k q] at h; cases h
theorem Fr.upN {ok : Addr → Prop} {G H : Hp} {p : Addr} {o : HO} (a : Fr ok G H) (h : G p = none) : Fr ok G (upd H p o) := fun b u k e => by
  rw [upd_ne (ne_of_none e h)]; exact a b u k e
theorem Same.upN {G H : Hp} {p : Addr} {o : HO} (a : Same G H) (h : G p = none) : Same G (upd H p o) := fun b u e => by
  rw [upd_ne (ne_of_none e h)]; exact a b u e
theorem Same.new {H : Hp} {p : Addr} {o : HO} (h : H p = none) : Same H (upd H p o) := fun b u e => by
  rw [upd_ne (ne_of_none e h)]; exact e
def mkO (kd : Bool) (xs : List V) : HO := match kd with
  | true => .lst xs
  | false => .tup xs
theorem sq_of {kd : Bool} {K : PySem.W.Frag} {H : Hp} {a : Addr} {xs : List V} (h : H a = some (mkO kd xs)) : Sq kd K H a xs := by
  cases kd with
  | true => exact SqL.of h
  | false => exact SqT.of h
theorem sqa_of {kd : Bool} {K : PySem.W.Frag} {H : Hp} {a : Addr} {xs : List V} (h : Sq kd K H a xs) : SqL K H a xs ∨ SqT K H a xs := by
  cases kd with
  | true => exact .inl h
  | false => exact .inr h
theorem small {n : Nat} (h : n ≤ 1000000) : n < sizeLine := Nat.lt_of_le_of_lt h (by decide)
theorem smallE {n : Nat} (h : n ≤ 1000000) : n ≤ sizeLine := Nat.le_of_lt (small h)
theorem big {n : Nat} (h : n ≤ 16000000) : n < sizeLine := Nat.lt_of_le_of_lt h (by decide)
theorem bigE {n : Nat} (h : n ≤ 16000000) : n ≤ sizeLine := Nat.le_of_lt (big h)
/-- at a there is a source whose count is n; what may change is the first number and the count -/
def Src (H : Hp) (a : Addr) (n : Int) : Prop := ∃ d s, H a = some (.lst [.int d, .int s, .int n]) ∧ 0 ≤ s ∧ s < 2 ^ 40 ∧ 0 ≤ n
theorem Src.new {H : Hp} {a p : Addr} {n : Int} {o : HO} (x : Src H a n) (h : H p = none) : Src (upd H p o) a n := by
  obtain ⟨d, s, e, r⟩ := x
  exact ⟨d, s, by rw [upd_ne (ne_of_none e h)]; exact e, r⟩
theorem Src.ne {H : Hp} {a p : Addr} {n : Int} {o : HO} (x : Src H a n) (h : a ≠ p) : Src (upd H p o) a n := by
  obtain ⟨d, s, e, r⟩ := x
  exact ⟨d, s, by rw [upd_ne h]; exact e, r⟩
theorem Src.fr {H H' : Hp} {a : Addr} {n : Int} {ok : Addr → Prop} (x : Src H a n) (f : Fr ok H H') (k : ok a) : Src H' a n := by
  obtain ⟨d, s, e, r⟩ := x
  exact ⟨d, s, f _ _ k e, r⟩
theorem Src.is {H : Hp} {a : Addr} {n : Int} (x : Src H a n) : ∃ o, H a = some o := by
  obtain ⟨d, s, e, r⟩ := x
  exact ⟨_, e⟩
theorem Src.nn {H : Hp} {a p : Addr} {n : Int} (x : Src H a n) (h : H p = none) : p ≠ a := by
  obtain ⟨d, s, e, r⟩ := x
  exact (ne_of_none e h).symm
theorem getD_mem {xs : List V} {k : Int} (h0 : 0 ≤ k) (h1 : k < (xs.length : Int)) : ∃ x, atI xs k = some x ∧ x ∈ xs := by
  have hk : k.toNat < xs.length := by omega
  obtain ⟨j, rfl⟩ : ∃ j : Nat, k = (j : Int) := ⟨k.toNat, by omega⟩
  exact ⟨xs[j], atI_nat (List.getElem?_eq_getElem (by omega)), List.getElem_mem _⟩
end Ft
set_option Elab.async false
set_option linter.all false
set_option maxRecDepth 100000
set_option maxHeartbeats 1000000
namespace Ft
open PySem PySem.Spec PyProof.Rows L2
structure FnG (P : PySem.Program) (w : World) (K : PySem.W.Frag) (mg : Str → Option Value) (base : Heap) (k : Nat) (f : Addr) (fd : FuncData) (ps : List Str) (sp : Sp) : Prop where
  len : ∀ vs H Q E, sp vs H Q E → vs.length = ps.length
  run : ∀ (A : Around) (outer : List Env) (s : Shared) (H : Hp) (args : Args) (us : List Value) (vs : List V) (Q : VK) (E : XK), A.guards = some [] → Room k A → Env0 P w K mg base A outer s H → BindsTo s fd args (ps.zip us) → Vals vs us → sp vs H Q E →
    codeAny (model P w) A (.call (.ref f) args) (CR CX0 outer P w H s Q E) s
section
variable {P : PySem.Program} {w : World} {K : PySem.W.Frag} {mg : Str → Option Value} {base : Heap} {j k : Nat} {f : Addr} {fd : FuncData} {ps : List Str} {sp : Sp}
theorem FnG.of (F : FnOk P w K mg base CX0 k f fd ps sp) : FnG P w K mg base k f fd ps sp := ⟨F.len, fun A outer s H args us vs Q E _ => F.run A outer s H args us vs Q E⟩
theorem FnG.mono (F : FnG P w K mg base j f fd ps sp) (h : j ≤ k) : FnG P w K mg base k f fd ps sp := ⟨F.len, fun A outer s H args us vs Q E hg hr => F.run A outer s H args us vs Q E hg (hr.mono h)⟩
/-- what a body's flow leaves is what the caller wants -/
theorem flow_end {N : List Str} {qual : Str} {sc : Scope} {cd : Value} {A : Around} {outer : List Env} {s s' : Shared} {H : Hp} {Q : VK} {E : XK} {σ : L2.St} {H' : Hp} {v : V} {u : Value}
    (J : Inv (cxOf CX0 P w K mg base N qual sc f cd A outer s H E) [] σ H' s') (rv : RelV v u) (q : Q v H') : CE outer P w H s Q u s' := ⟨v, H', J.os, J.bare, J.base, J.hok, rv, q⟩
/-- a def of the text, by its body, read where the guards are none -/
theorem Fun.okG {x qual : Str} {st : Stmt} {N : List Str} (F : Fun K x qual st f fd) (S : FnScope N ps (defScope st)) (len : ∀ vs H Q E, sp vs H Q E → vs.length = ps.length)
    (body : ∀ (cdv : Value) (A : Around) (outer : List Env) (s : Shared) (H : Hp) (vs : List V) (Q : VK) (E : XK), A.guards = some [] → Room k (A.deeper (envOfC qual (defScope st) s.heap.objs.size f cdv)) → sp vs H Q E →
      ∃ t, PSs (cxOf CX0 P w K mg base N qual (defScope st) f cdv A outer s H E).nox (defBody st) t ∧ t { nx := fun _ H' => Q .non H', rt := Q } (start N vs) H) : FnG P w K mg base (k + 1) f fd ps sp := by
  obtain ⟨oc, od, kV, doc, pm, an, cdv, ct, osl, rfl, lk, hcd⟩ := F.ex
  refine ⟨len, fun A outer s H args us vs Q E gd hr e0 bd rv want => ?_⟩
  have up : ∀ {b : Addr} {o : Obj}, base.get? b = some o → s.heap.get? b = some o := fun e => (e0.bs _ _ e).1
  have inK : K.In s.heap := e0.mod.kin.keeps fun _ _ e => up e
  have params : ∀ y ∈ ps.zip us, (defScope st).names.lookup y.1 = some .local ∨ ((defScope st).names.lookup y.1 = some .cell ∧ ((cellsFrom (s.heap.objs.size + 1) (defScope st).names []).lookup y.1).isSome = true) := by
    rintro ⟨n, v⟩ hy
    exact (S.par n (List.of_mem_zip hy).1).imp id fun z => ⟨z, PySem.W.cellsFrom_some _ _ _ (.inl z)⟩
  refine codeAny_call_function hr.depth (inK _ _ lk) rfl S.co S.gen rfl (PySem.W.codeRec_of inK hcd) (bd _ _ _ _ (wpAny_newFunctionEnv_cells S.kind params fun env he s1 laid => ?_))
  subst he
  obtain ⟨t, read, go⟩ := body cdv A outer s H vs Q E gd (hr.deeper _) want
  have begun := inv_start (CX := CX0) (P := P) (w := w) (K := K) (mg := mg) (N := N) (E := E) S hr.hd e0 (len _ _ _ _ want) rv laid
  refine ⟨(e0.mod.nolimit.keeps fun _ _ e => up e).keeps laid.toInCall.keep, codeAny_func (wpAny_mono (read.nox.run [] s1 (start N vs) H _ begun go) (fun fl s' left => ?_) fun _ _ z => z)⟩
  match fl, left with
  | .ret u, ⟨v, σ', H', J, r2, q⟩ => exact flow_end J r2 q
  | .next, ⟨σ', H', J, q⟩ => exact flow_end (v := .non) (u := .none) J rfl q
  | .brk, ⟨_, _, _, q⟩ => exact q.elim
  | .cont, ⟨_, _, _, q⟩ => exact q.elim
end
structure OwnG (P : PySem.Program) (w : World) (K : PySem.W.Frag) (mg : Str → Option Value) (base : Heap) (k : Nat) (x : Str) (ps : List Str) (sp : Sp) : Prop where
  ex : ∃ (f : Addr) (fd : FuncData), FnG P w K mg base k f fd ps sp ∧ mg x = some (.ref f) ∧ PySem.W.keepIn K (.ref f) = true ∧ Binds K fd ps []
theorem OwnG.mono {P : PySem.Program} {w : World} {K : PySem.W.Frag} {mg : Str → Option Value} {base : Heap} {j k : Nat} {x : Str} {ps : List Str} {sp : Sp} (G : OwnG P w K mg base j x ps sp) (h : j ≤ k) : OwnG P w K mg base k x ps sp := by
  obtain ⟨f, fd, F, r⟩ := G.ex
  exact ⟨f, fd, F.mono h, r⟩
section
variable {X : Cx}
theorem call_reprD (gd : X.A.guards = some []) (hu : X.A.units + 65 < cLine) : CallR X (.builtin "repr") (fun xs H Q => ∃ (a : Addr) (d : PyData), xs = [.ref a] ∧ Dp X.K H (.ref a) d ∧ d.depth ≤ 60 ∧ d.showable = true ∧ d.hasDict = false ∧ d.shown.length ≤ sizeLine ∧ Q (.str d.shown) H) := by
  intro pins s σ H xs us Q I r h
  obtain ⟨a, d, rfl, hd, hdp, hs, hh, hz, q⟩ := h
  obtain ⟨u, rfl, ru⟩ := vals1 r
  obtain rfl : u = Value.ref a := ru
  obtain ⟨as, rd⟩ := Dp.reads I d _ _ hd rfl
  exact repr_of_reads' rd hs (fun z => absurd z (by rw [hh]; exact Bool.false_ne_true)) gd (by omega) (fun _ _ e => e) (fun h' u tk hk => ⟨.str d.shown, H, I.kept (t' := tk) hk, ⟨_, rfl⟩, q⟩) hz
end
section
variable {P : PySem.Program} {w : World} {K : PySem.W.Frag} {mg mb : Str → Option Value} {k : Nat} {fa a : Addr} {fd : FuncData} {x : Str} {sp : Sp} {s₁ : Shared} {vs : List Value}
/-- the module as it stands beside what is tracked, if this is at most a list at a -/
theorem mod_beside {H : Hp} {n : Nat} (KX : K.In s₁.heap) (g : s₁.heap.Ns mainGlobals mg) (gb : s₁.heap.Ns builtinsNs mb) (bb : ∀ x : Str, x ≠ "__name__" → mb x = bootBuiltins x) (lim : s₁.heap.NoLimit) (ha : s₁.heap.get? a = some (seqObj "list" vs.toArray n))
    (one : ∀ b, H b ≠ none → b = a) (out : H a ≠ none → K.lookup a = none) : Mod K mg (hidT s₁.heap H) := by
  have free : ∀ {b : Addr}, b ≠ a → H b = none := fun {b} ne => Classical.byContradiction fun z => ne (one b z)
  have ns : ∀ {b : Addr} {m : Str → Option Value}, s₁.heap.Ns b m → (hidT s₁.heap H).Ns b m := fun {b m} ⟨o, es, ep, e, d, r⟩ => ⟨o, es, ep, hidT_get e (free fun z => by rw [z, ha] at e; cases e; cases d), d, r⟩
  refine ⟨fun b o e => hidT_get (KX b o e) ?_, ns g, ⟨mb, ns gb, bb⟩, lim.elim fun mc h => ⟨mc, ns h.1, h.2⟩⟩
  by_cases c : b = a
  · rw [c] at e ⊢
    exact Classical.byContradiction fun z => by rw [out z] at e; cases e
  · exact free c
/-- True came back, and all objects of before stand -/
theorem true_back {H : Hp} {s' : Shared} {r : Result} (hok : HOk P w H s₁.heap) (only : Only H) (h : CR CX0 [] P w H s₁ (fun v _ => v = .bl true) (fun _ _ _ => False) r s') :
    r = .ok (.ret (.bool true)) ∧ OldK s₁.heap s'.heap ∧ s'.os = s₁.os ∧ AllBare s'.gens := by
  match r, h with
  | .error _, z => exact z.elim
  | .ok .next, z => exact z.elim
  | .ok .brk, z => exact z.elim
  | .ok .cont, z => exact z.elim
  | .ok (.ret u), ⟨v, H', os, bare, un, hok', rv, q⟩ =>
    subst q
    obtain rfl : u = Value.bool true := rv
    have stands : ∀ b o, s₁.heap.get? b = some o → s'.heap.get? b = some o := fun b o e => by
      rcases only b with z | ⟨ob, ys, z⟩
      · exact un.keep b o e z (fun q => nomatch q) (fun q => nomatch q)
      · have e1 := (hok b _ z).1
        have e2 := (hok' b _ (un.frzs b ob _ z)).1
        rw [e] at e1
        rw [e2, Option.some.inj e1]
    exact ⟨rfl, OldK.of_keep stands, os, bare⟩
theorem law_callG {ns : List Int} (KX : K.In s₁.heap) (g : s₁.heap.Ns mainGlobals mg) (gb : s₁.heap.Ns builtinsNs mb) (bb : ∀ x : Str, x ≠ "__name__" → mb x = bootBuiltins x) (lim : s₁.heap.NoLimit) (hg : s₁.gens = #[])
    (ha : s₁.heap.get? a = some { cls := .type "list", data := .seq vs.toArray }) (hi : IntsAre vs ns) (hl : ns.length ≤ sizeLine) (hr : Room k callerA)
    (F : ∀ base : Heap, K.In base → base.Ns mainGlobals mg → FnG P w K mg base k fa fd [x] sp) (bd : ∀ (s : Shared) (u : Value), BindsTo s fd ⟨[u], []⟩ [(x, u)])
    (want : ∀ H : Hp, Only H → SqL K H a (ns.map V.int) → sp [.ref a] H (fun v _ => v = .bl true) fun _ _ _ => False) :
    codeAny (model P w) callerA (.call (.ref fa) ⟨[.ref a], []⟩) (fun r s' => r = .ok (.ret (.bool true)) ∧ OldK s₁.heap s'.heap ∧ s'.os = s₁.os ∧ AllBare s'.gens) s₁ := by
  have go : ∀ H : Hp, Only H → SqL K H a (ns.map V.int) → HOk P w H s₁.heap → (∀ b, H b ≠ none → b = a) → (H a ≠ none → K.lookup a = none) → codeAny (model P w) callerA (.call (.ref fa) ⟨[.ref a], []⟩) (fun r s' => r = .ok (.ret (.bool true)) ∧ OldK s₁.heap s'.heap ∧ s'.os = s₁.os ∧ AllBare s'.gens) s₁ := fun H only hS hok one out => by
    have M := mod_beside (n := 0) KX g gb bb lim ha one out
    have e0 : Env0 P w K mg (hidT s₁.heap H) callerA [] s₁ H := { frames := rfl, mod := M, bs := fun b o e => of_hidT e, bsz := Nat.le_of_eq (hidT_size _ _), funs := trivial, frf := (fun b z => nomatch z), hok := hok, bare := .of_eq hg }
    exact codeAny_mono ((F _ M.kin M.glob).run callerA [] s₁ H ⟨[.ref a], []⟩ [.ref a] [.ref a] _ _ rfl hr e0 (bd s₁ (.ref a)) (.cons rfl .nil) (want H only hS)) fun r s' h => true_back hok only h
  have lv := hi.length
  cases hk : K.lookup a with
  | some o =>
    have e := (KX a o hk).symm.trans ha
    cases e
    exact go (fun _ => none) (fun _ => .inl rfl) (.inr ⟨_, vs.toArray, _, hk, rfl, rfl, rfl, by rw [List.size_toArray, lv]; exact hl, by simpa using vals_ints hi⟩) (fun _ _ z => nomatch z) (fun _ z => absurd rfl z) fun z => absurd rfl z
  | none =>
    let H : Hp := fun b => if b = a then some (.frz { cls := .type "list", data := .seq vs.toArray } (.lst (ns.map V.int))) else none
    have at_ : ∀ b, (b = a ∧ H b = some (.frz { cls := .type "list", data := .seq vs.toArray } (.lst (ns.map V.int)))) ∨ H b = none := fun b => by
      by_cases c : b = a
      · exact .inl ⟨c, if_pos c⟩
      · exact .inr (if_neg c)
    refine go H (fun b => (at_ b).elim (fun z => .inr ⟨_, _, z.2⟩) .inl) (.inl (.inr ⟨_, if_pos rfl⟩)) (fun b u e => ?_) (fun b z => (at_ b).elim (fun q => q.1) fun q => absurd q z) fun _ => hk
    rcases at_ b with ⟨rfl, q⟩ | q
    · rw [q] at e
      cases e
      exact ⟨ha, by rw [List.length_map]; exact hl, vs, _, vals_ints hi, ha⟩
    · rw [q] at e; cases e
end
theorem walk_ofG {l : PySem.W.OpenLaw} {n k : Nat} {q : PySem.Program} {loose : List Str} {XP : (Str → Option Value) → Heap → Prop} {YP : World → Heap → Prop} {d : DefRec} {x : Str}
    (hn : l.most = some n) (hn2 : n ≤ sizeLine) (hdf : d.params.defaults = []) (hr : Room k callerA)
    (F : ∀ (w : World) (mg : Str → Option Value) (fa : Addr) (h : Heap), YP w h → h.Ns mainGlobals mg → mg d.name = some (.ref fa) →
      ∃ (K : PySem.W.Frag) (fd : FuncData) (sp : Sp), K.In h ∧ (∀ (s : Shared) (u : Value), BindsTo s fd ⟨[u], []⟩ [(x, u)]) ∧
        (∀ (H : Hp) (a : Addr) (ns : List Int), ns.length ≤ n → Only H → SqL K H a (ns.map V.int) → sp [.ref a] H (fun v _ => v = .bl true) fun _ _ _ => False) ∧
        ∀ base : Heap, K.In base → base.Ns mainGlobals mg → FnG l.prog w K mg base k fa fd [x] sp) :
    PySem.W.WalkO q loose XP YP l.row.toRowW d [] (fun f vs => PySem.call f vs) :=
  Att.attach_call hn hdf fun w _ s₁ mg _ fa _ _ _ _ a vs ns G Y _ _ _ hmg hobj hints hlen hg => by
    obtain ⟨K, fd, sp, KX, bd, want, go⟩ := F w mg fa _ Y G.T.g hmg
    exact law_callG KX G.T.g G.T.b G.T.builtins G.T.nolimit hg hobj hints (Nat.le_trans hlen hn2) hr go bd fun H only hS => want H a ns hlen only hS
end Ft
set_option Elab.async false
set_option linter.all false
set_option maxRecDepth 100000
set_option maxHeartbeats 4000000
namespace Ft
open PySem PySem.Spec PyProof.Rows L2
def kitAnyB (T : String) : List String → Option Bool
  | [] => some false
  | c :: cs => match kitB T c with
    | some true => some true
    | some false => kitAnyB T cs
    | none => none
theorem kitAny_of {K : PySem.W.Frag} {T : String} : ∀ {cs : List String} {b : Bool}, kitAnyB T cs = some b → PySem.W.kitAny K (.type T) (cs.map Value.type) = some b
  | [], b, h => by
    have : false = b := Option.some.inj h
    subst this
    exact kitAny_nil
  | c :: cs, b, h => by
    unfold kitAnyB at h
    cases e : kitB T c with
    | none => rw [e] at h; cases h
    | some x =>
      rw [e] at h
      cases x with
      | true =>
        have : true = b := Option.some.inj h
        subst this
        exact kitAny_cons (kit_ty e) (fun z => by cases z) (fun _ => rfl)
      | false => exact kitAny_cons (kit_ty e) (fun _ => kitAny_of h) (fun z => by cases z)
theorem clsV_all : ∀ (cs : List String), Paired ClsV (cs.map V.ty) (cs.map Value.type)
  | [] => .nil
  | c :: cs => .cons (.ty c) (clsV_all cs)
def isAtom : V → Bool
  | .non => true
  | .bl _ => true
  | .int _ => true
  | .str _ => true
  | _ => false
def atomT : V → String
  | .non => "NoneType"
  | .bl _ => "bool"
  | .int _ => "int"
  | .str _ => "str"
  | _ => ""
def seqT (kd : Bool) : String := if kd then "list" else "tuple"
theorem atom_ty {K : PySem.W.Frag} {H : Hp} {x : V} (h : isAtom x = true) : TyX K H x (.type (atomT x)) := by
  cases x with
  | non => exact .base .non
  | bl b => exact .base (.bl b)
  | int i => exact .base (.int i)
  | str z => exact .base (.str z)
  | _ => cases h
theorem seq_ty {K : PySem.W.Frag} {H : Hp} {a : Addr} {kd : Bool} {xs : List V} (h : H a = some (mkO kd xs)) : TyX K H (.ref a) (.type (seqT kd)) := by
  cases kd with
  | true => exact .base (.lst h)
  | false => exact .base (.tup h)
theorem atom_lt {x : V} (h : isAtom x = true) : kitAnyB (atomT x) ["list", "tuple"] = some false := by
  cases x with
  | non => decide +kernel
  | bl b => show kitAnyB "bool" ["list", "tuple"] = some false; decide +kernel
  | int i => show kitAnyB "int" ["list", "tuple"] = some false; decide +kernel
  | str z => show kitAnyB "str" ["list", "tuple"] = some false; decide +kernel
  | _ => cases h
theorem seq_lt (kd : Bool) : kitAnyB (seqT kd) ["list", "tuple"] = some true := by cases kd <;> decide +kernel
end Ft
set_option Elab.async false
set_option linter.all false
set_option maxRecDepth 100000
set_option maxHeartbeats 4000000
namespace Ft
open PySem L2
inductive DT where
  | at (v : V)
  | sq (kd : Bool) (ts : List DT)
def DtAt (H : Hp) : Nat → V → DT → Prop
  | _, v, .at x => v = x ∧ isAtom x = true
  | m + 1, v, .sq kd ts => ∃ a xs, v = .ref a ∧ H a = some (mkO kd xs) ∧ ts.length ≤ 16000000 ∧ Paired (DtAt H m) xs ts
  | 0, _, .sq _ _ => False
theorem DtAt.to {H H' : Hp} (t : ∀ a kd xs, H a = some (mkO kd xs) → H' a = some (mkO kd xs)) : ∀ {m : Nat} {v : V} {d : DT}, DtAt H m v d → DtAt H' m v d := by
  intro m
  induction m with
  | zero =>
    intro v d h
    cases d with
    | «at» x => exact h
    | sq kd ts => exact h.elim
  | succ m ih =>
    intro v d h
    cases d with
    | «at» x => exact h
    | sq kd ts =>
      obtain ⟨a, xs, e, h1, h2, h3⟩ := h
      have go : ∀ {xs : List V} {ts : List DT}, Paired (DtAt H m) xs ts → Paired (DtAt H' m) xs ts := by
        intro xs ts h
        induction h with
        | nil => exact .nil
        | cons r _ ih2 => exact .cons (ih r) ih2
      exact ⟨a, xs, e, t _ _ _ h1, h2, go h3⟩
theorem seqT_list (kd : Bool) : kitB (seqT kd) "list" = some kd := by cases kd <;> decide +kernel
theorem seqT_tuple (kd : Bool) : kitB (seqT kd) "tuple" = some (!kd) := by cases kd <;> decide +kernel
def isIntB : V → Bool
  | .int _ => true
  | .bl _ => true
  | _ => false
def isBl : V → Bool
  | .bl _ => true
  | _ => false
theorem atom_bi {x : V} (h : isAtom x = true) : kitAnyB (atomT x) ["bool", "int"] = some (isIntB x) := by
  cases x with
  | non => decide +kernel
  | bl b => show kitAnyB "bool" ["bool", "int"] = some true; decide +kernel
  | int i => show kitAnyB "int" ["bool", "int"] = some true; decide +kernel
  | str z => show kitAnyB "str" ["bool", "int"] = some false; decide +kernel
  | _ => cases h
theorem atom_int {x : V} (h : isAtom x = true) : kitB (atomT x) "int" = some (isIntB x) := by
  cases x with
  | non => decide +kernel
  | bl b => show kitB "bool" "int" = some true; decide +kernel
  | int i => show kitB "int" "int" = some true; decide +kernel
  | str z => show kitB "str" "int" = some false; decide +kernel
  | _ => cases h
theorem atom_bool {x : V} (h : isAtom x = true) : kitB (atomT x) "bool" = some (isBl x) := by
  cases x with
  | non => decide +kernel
  | bl b => show kitB "bool" "bool" = some true; decide +kernel
  | int i => show kitB "int" "bool" = some false; decide +kernel
  | str z => show kitB "str" "bool" = some false; decide +kernel
  | _ => cases h
theorem atom_blt {x : V} (h : isAtom x = true) (hb : isIntB x = false) : kitAnyB (atomT x) ["bool", "list", "tuple"] = some false := by
  cases x with
  | non => decide +kernel
  | str z => show kitAnyB "str" ["bool", "list", "tuple"] = some false; decide +kernel
  | bl b => cases hb
  | int i => cases hb
  | _ => cases h
end Ft
set_option Elab.async false
set_option linter.all false
set_option maxRecDepth 100000
set_option maxHeartbeats 4000000
namespace Ft
open PySem L2
/-- a word: one to eight small letters -/
def isW (z : Str) : Bool := decide (1 ≤ z.length) && (decide (z.length ≤ 8) && z.cps.toList.all fun c => decide (97 ≤ c) && decide (c ≤ 122))
end Ft
set_option Elab.async false
set_option linter.all false
set_option maxRecDepth 100000
set_option maxHeartbeats 4000000
namespace Ft
open PySem L2
inductive Row where
  | plain (w : Str) (fs : List V)
  | make (n : Str) (b : List Row)
  | when (n : Str) (b c : List Row)
  | try_ (b c : List Row)
/-- what stands behind the word of a row without blocks: true: a word, false: a number -/
def plainT : List (Str × List Bool) := [("load", [true, true]), ("pick", [true, true, true]), ("put", [true, false]), ("copy", [true, true]), ("part", [true, true, true]), ("drop", [true]), ("say", [false]), ("tell", [true]), ("seen", [true, true]), ("fail", [false]), ("call", [true])]
def fldOk : Bool → V → Bool
  | true, .str z => isW z
  | false, .int i => decide (-999 ≤ i) && decide (i ≤ 999)
  | _, _ => false
def plainOk (wi : Bool) (w : Str) (fs : List V) : Prop := ∃ ks, (w, ks) ∈ plainT ∧ Paired (fun k v => fldOk k v = true) ks fs ∧ (wi = true → w ≠ "call")
/-- blocks of at most m rows -/
def RowB (m : Nat) : Nat → Bool → Row → Prop
  | _, wi, .plain w fs => plainOk wi w fs
  | d + 1, wi, .make n b => wi = false ∧ isW n = true ∧ b.length ≤ m ∧ ∀ r ∈ b, RowB m d true r
  | d + 1, wi, .when n b c => isW n = true ∧ b.length ≤ m ∧ c.length ≤ m ∧ (∀ r ∈ b, RowB m d wi r) ∧ ∀ r ∈ c, RowB m d wi r
  | d + 1, wi, .try_ b c => b.length ≤ m ∧ c.length ≤ m ∧ (∀ r ∈ b, RowB m d wi r) ∧ ∀ r ∈ c, RowB m d wi r
  | 0, _, _ => False
abbrev RowOk (d : Nat) (wi : Bool) (r : Row) : Prop := RowB 24 d wi r
abbrev RowO8 (d : Nat) (wi : Bool) (r : Row) : Prop := RowB 8 d wi r
theorem RowB.up {m m' : Nat} (hm : m ≤ m') : ∀ {d : Nat} {wi : Bool} {r : Row}, RowB m d wi r → RowB m' d wi r := by
  intro d
  induction d with
  | zero =>
    intro wi r h
    cases r with
    | plain w fs => exact h
    | _ => exact h.elim
  | succ d ih =>
    intro wi r h
    cases r with
    | plain w fs => exact h
    | make n b => exact ⟨h.1, h.2.1, Nat.le_trans h.2.2.1 hm, fun r hr => ih (h.2.2.2 r hr)⟩
    | when n b c => exact ⟨h.1, Nat.le_trans h.2.1 hm, Nat.le_trans h.2.2.1 hm, fun r hr => ih (h.2.2.2.1 r hr), fun r hr => ih (h.2.2.2.2 r hr)⟩
    | try_ b c => exact ⟨Nat.le_trans h.1 hm, Nat.le_trans h.2.1 hm, fun r hr => ih (h.2.2.1 r hr), fun r hr => ih (h.2.2.2 r hr)⟩
theorem RowB.ok {d : Nat} {wi : Bool} {r : Row} (h : RowO8 d wi r) : RowOk d wi r := h.up (by decide)
/-- a sequence of kinds kk at an ok place -/
def At (ok : Addr → Prop) (kk : Bool → Prop) (H : Hp) (v : V) (xs : List V) : Prop := ∃ a kd, v = .ref a ∧ ok a ∧ kk kd ∧ H a = some (mkO kd xs)
def RowAt (ok : Addr → Prop) (kk : Bool → Bool → Prop) (H : Hp) : Nat → V → Row → Prop
  | _, v, .plain w fs => At ok (kk false) H v (.str w :: fs)
  | d + 1, v, .make n b => ∃ vb xs, At ok (kk false) H v [.str "make", .str n, vb] ∧ At ok (kk true) H vb xs ∧ Paired (RowAt ok kk H d) xs b
  | d + 1, v, .when n b c => ∃ vb xs vc ys, At ok (kk false) H v [.str "when", .str n, vb, vc] ∧ At ok (kk true) H vb xs ∧ Paired (RowAt ok kk H d) xs b ∧ At ok (kk true) H vc ys ∧ Paired (RowAt ok kk H d) ys c
  | d + 1, v, .try_ b c => ∃ vb xs vc ys, At ok (kk false) H v [.str "try", vb, vc] ∧ At ok (kk true) H vb xs ∧ Paired (RowAt ok kk H d) xs b ∧ At ok (kk true) H vc ys ∧ Paired (RowAt ok kk H d) ys c
  | 0, _, _ => False
/-- rows of a block or module -/
def RowsAt (ok : Addr → Prop) (kk : Bool → Bool → Prop) (H : Hp) (d : Nat) (v : V) (rs : List Row) : Prop := ∃ xs, At ok (kk true) H v xs ∧ Paired (RowAt ok kk H d) xs rs
/-- what may be read at ok places is kept, and the places are ok' -/
def Keep (ok ok' : Addr → Prop) (H H' : Hp) : Prop := ∀ x kd xs, ok x → H x = some (mkO kd xs) → ok' x ∧ H' x = some (mkO kd xs)
theorem Keep.trans {o1 o2 o3 : Addr → Prop} {H1 H2 H3 : Hp} (a : Keep o1 o2 H1 H2) (b : Keep o2 o3 H2 H3) : Keep o1 o3 H1 H3 := fun x kd xs k h => by
  obtain ⟨k2, h2⟩ := a x kd xs k h
  exact b x kd xs k2 h2
theorem Keep.fr {ok ok' : Addr → Prop} {H H' : Hp} (f : Fr ok H H') (h : ∀ x, ok x → ok' x) : Keep ok ok' H H' := fun x kd xs k e => ⟨h x k, f _ _ k e⟩
theorem Keep.new {ok : Addr → Prop} {H : Hp} {p : Addr} {o : HO} (h : H p = none) : Keep ok ok H (upd H p o) := Keep.fr (Fr.new h) fun _ k => k
theorem Keep.mono {o1 o2 : Addr → Prop} {H : Hp} (h : ∀ x, o1 x → H x ≠ none → o2 x) : Keep o1 o2 H H := fun x kd xs k e => ⟨h x k (by rw [e]; exact fun z => nomatch z), e⟩
theorem At.to {ok ok' : Addr → Prop} {kk : Bool → Prop} {H H' : Hp} {v : V} {xs : List V} (h : At ok kk H v xs) (t : Keep ok ok' H H') : At ok' kk H' v xs := by
  obtain ⟨a, kd, e, k, q, m⟩ := h
  obtain ⟨k', m'⟩ := t a kd xs k m
  exact ⟨a, kd, e, k', q, m'⟩
theorem At.kinds {ok : Addr → Prop} {kk kk' : Bool → Prop} {H : Hp} {v : V} {xs : List V} (h : At ok kk H v xs) (t : ∀ b, kk b → kk' b) : At ok kk' H v xs := by
  obtain ⟨a, kd, e, k, q, m⟩ := h
  exact ⟨a, kd, e, k, t _ q, m⟩
theorem paired_imp {α β : Type} {R S : α → β → Prop} : ∀ {xs : List α} {ys : List β}, Paired R xs ys → (∀ x y, R x y → S x y) → Paired S xs ys
  | _, _, .nil, _ => .nil
  | _, _, .cons r t, f => .cons (f _ _ r) (paired_imp t f)
theorem RowAt.gen {ok ok' : Addr → Prop} {kk kk' : Bool → Bool → Prop} {H H' : Hp} (t : Keep ok ok' H H') (tk : ∀ s b, kk s b → kk' s b) : ∀ (d : Nat) (v : V) (r : Row), RowAt ok kk H d v r → RowAt ok' kk' H' d v r := by
  have g : ∀ {s v xs}, At ok (kk s) H v xs → At ok' (kk' s) H' v xs := fun h => (h.to t).kinds (tk _)
  intro d
  induction d with
  | zero =>
    intro v r h
    cases r with
    | plain w fs => exact g h
    | _ => exact h.elim
  | succ d ih =>
    intro v r h
    cases r with
    | plain w fs => exact g h
    | make n b =>
      obtain ⟨vb, xs, h1, h2, h3⟩ := h
      exact ⟨vb, xs, g h1, g h2, paired_imp h3 ih⟩
    | when n b c =>
      obtain ⟨vb, xs, vc, ys, h1, h2, h3, h4, h5⟩ := h
      exact ⟨vb, xs, vc, ys, g h1, g h2, paired_imp h3 ih, g h4, paired_imp h5 ih⟩
    | try_ b c =>
      obtain ⟨vb, xs, vc, ys, h1, h2, h3, h4, h5⟩ := h
      exact ⟨vb, xs, vc, ys, g h1, g h2, paired_imp h3 ih, g h4, paired_imp h5 ih⟩
theorem RowAt.to {ok ok' : Addr → Prop} {kk : Bool → Bool → Prop} {H H' : Hp} {d : Nat} {v : V} {r : Row} (h : RowAt ok kk H d v r) (t : Keep ok ok' H H') : RowAt ok' kk H' d v r := RowAt.gen t (fun _ _ h => h) d v r h
theorem RowsAt.to {ok ok' : Addr → Prop} {kk : Bool → Bool → Prop} {H H' : Hp} {d : Nat} {v : V} {rs : List Row} (h : RowsAt ok kk H d v rs) (t : Keep ok ok' H H') : RowsAt ok' kk H' d v rs := by
  obtain ⟨xs, h1, h2⟩ := h
  exact ⟨xs, h1.to t, paired_imp h2 fun v r q => q.to t⟩
theorem rowAt_mono {ok : Addr → Prop} {kk : Bool → Bool → Prop} {H : Hp} : ∀ (d : Nat) (v : V) (r : Row), RowAt ok kk H d v r → RowAt ok kk H (d + 1) v r := by
  intro d
  induction d with
  | zero =>
    intro v r h
    cases r with
    | plain w fs => exact h
    | _ => exact h.elim
  | succ d ih =>
    intro v r h
    cases r with
    | plain w fs => exact h
    | make n b =>
      obtain ⟨vb, xs, h1, h2, h3⟩ := h
      exact ⟨vb, xs, h1, h2, paired_imp h3 ih⟩
    | when n b c =>
      obtain ⟨vb, xs, vc, ys, h1, h2, h3, h4, h5⟩ := h
      exact ⟨vb, xs, vc, ys, h1, h2, paired_imp h3 ih, h4, paired_imp h5 ih⟩
    | try_ b c =>
      obtain ⟨vb, xs, vc, ys, h1, h2, h3, h4, h5⟩ := h
      exact ⟨vb, xs, vc, ys, h1, h2, paired_imp h3 ih, h4, paired_imp h5 ih⟩
def anyK : Bool → Bool → Prop := fun _ _ => True
theorem paired_len {α β : Type} {R : α → β → Prop} : ∀ {xs : List α} {ys : List β}, Paired R xs ys → xs.length = ys.length
  | _, _, .nil => rfl
  | _, _, .cons _ t => congrArg Nat.succ (paired_len t)
theorem paired_app {α β : Type} {R : α → β → Prop} {x : α} {y : β} (r : R x y) : ∀ {xs : List α} {ys : List β}, Paired R xs ys → Paired R (xs ++ [x]) (ys ++ [y])
  | _, _, .nil => .cons r .nil
  | _, _, .cons q t => .cons q (paired_app r t)
theorem paired_get {α β : Type} {R : α → β → Prop} : ∀ {xs : List α} {ys : List β} {i : Nat} {x : α}, Paired R xs ys → xs[i]? = some x → ∃ y, ys[i]? = some y ∧ R x y
  | _, _, i, x, .nil, e => by simp at e
  | _, _, 0, x, .cons r _, e => by
    have z := Option.some.inj e
    subst z
    exact ⟨_, rfl, r⟩
  | _, _, i + 1, x, .cons _ t, e => paired_get (i := i) t e
theorem paired_getR {α β : Type} {R : α → β → Prop} : ∀ {xs : List α} {ys : List β} {i : Nat} {y : β}, Paired R xs ys → ys[i]? = some y → ∃ x, xs[i]? = some x ∧ R x y
  | _, _, i, x, .nil, e => by simp at e
  | _, _, 0, x, .cons r _, e => by
    have z := Option.some.inj e
    subst z
    exact ⟨_, rfl, r⟩
  | _, _, i + 1, x, .cons _ t, e => paired_getR (i := i) t e
end Ft
set_option Elab.async false
set_option linter.all false
set_option maxRecDepth 100000
set_option maxHeartbeats 4000000
namespace Ft
open PySem L2
abbrev Lib := List (Str × List Row)
def LibAt (ok : Addr → Prop) (kk : Bool → Bool → Prop) (H : Hp) (kvs : List (Key × V)) (lib : Lib) : Prop := Paired (fun (kv : Key × V) (m : Str × List Row) => kv.1 = Sum.inr m.1 ∧ RowsAt ok kk H 3 kv.2 m.2) kvs lib
theorem LibAt.to {ok ok' : Addr → Prop} {kk : Bool → Bool → Prop} {H H' : Hp} {kvs : List (Key × V)} {lib : Lib} (h : LibAt ok kk H kvs lib) (t : Keep ok ok' H H') : LibAt ok' kk H' kvs lib := paired_imp h fun _ _ q => ⟨q.1, q.2.to t⟩
def putL (lib : Lib) (z : Str) (rs : List Row) : Lib := if (lib.any fun m => decide (m.1 = z)) = true then lib.map (fun m => if m.1 = z then (m.1, rs) else m) else lib ++ [(z, rs)]
theorem putL_any {ok : Addr → Prop} {kk : Bool → Bool → Prop} {H : Hp} {z : Str} : ∀ {kvs : List (Key × V)} {lib : Lib}, LibAt ok kk H kvs lib → (kvs.any fun kv => decide (kv.1 = Sum.inr z)) = (lib.any fun m => decide (m.1 = z))
  | _, _, .nil => rfl
  | _, _, .cons (a := kv) (b := m) r t => by
    rw [List.any_cons, List.any_cons, putL_any t, r.1]
    congr 1
    by_cases e : m.1 = z
    · rw [e]; simp
    · have : ¬ (Sum.inr m.1 : Key) = Sum.inr z := fun h => e (Sum.inr.inj h)
      rw [decide_eq_false e, decide_eq_false this]
theorem libAt_put {ok : Addr → Prop} {kk : Bool → Bool → Prop} {H : Hp} {kvs : List (Key × V)} {lib : Lib} {z : Str} {v : V} {rs : List Row} (h : LibAt ok kk H kvs lib) (hv : RowsAt ok kk H 3 v rs) : LibAt ok kk H (putK kvs (Sum.inr z) v) (putL lib z rs) := by
  unfold putK putL
  rw [putL_any (z := z) h]
  split
  · have go : ∀ {kvs : List (Key × V)} {lib : Lib}, LibAt ok kk H kvs lib → LibAt ok kk H (kvs.map (fun kv => if kv.1 = Sum.inr z then (kv.1, v) else kv)) (lib.map (fun m => if m.1 = z then (m.1, rs) else m)) := by
      intro kvs lib h
      induction h with
      | nil => exact .nil
      | cons r t ih =>
        refine .cons ?_ ih
        rename_i kv m _ _
        dsimp only
        by_cases e : m.1 = z
        · have e2 : kv.1 = Sum.inr z := by rw [r.1, e]
          rw [if_pos e, if_pos e2]
          exact ⟨r.1, hv⟩
        · have e2 : ¬ kv.1 = Sum.inr z := by rw [r.1]; exact fun q => e (Sum.inr.inj q)
          rw [if_neg e, if_neg e2]
          exact r
    exact go h
  · exact paired_app ⟨rfl, hv⟩ h
theorem putL_keys (lib : Lib) (z : Str) (rs : List Row) : (putL lib z rs).map (·.1) = if z ∈ lib.map (·.1) then lib.map (·.1) else lib.map (·.1) ++ [z] := by
  unfold putL
  have ea : ((lib.any fun m => decide (m.1 = z)) = true) ↔ z ∈ lib.map (·.1) := by
    rw [List.any_eq_true]
    constructor
    · rintro ⟨m, hm, e⟩
      have e' : m.1 = z := of_decide_eq_true e
      exact List.mem_map.mpr ⟨m, hm, e'⟩
    · intro h
      obtain ⟨m, hm, e⟩ := List.mem_map.mp h
      exact ⟨m, hm, decide_eq_true e⟩
  by_cases c : z ∈ lib.map (·.1)
  · rw [if_pos (ea.mpr c), if_pos c, List.map_map]
    refine List.map_congr_left fun m _ => ?_
    show (if m.1 = z then (m.1, rs) else m).1 = m.1
    split <;> rfl
  · rw [if_neg (fun h => c (ea.mp h)), if_neg c, List.map_append]
    rfl
theorem putL_mem {lib : Lib} {z : Str} {rs : List Row} {m : Str × List Row} (h : m ∈ putL lib z rs) : m = (z, rs) ∨ m ∈ lib := by
  unfold putL at h
  split at h
  · obtain ⟨m', hm, e⟩ := List.mem_map.mp h
    by_cases c : m'.1 = z
    · rw [if_pos c] at e
      rw [← c]; exact .inl e.symm
    · rw [if_neg c] at e
      rw [← e]; exact .inr hm
  · rcases List.mem_append.mp h with h | h
    · exact .inr h
    · exact .inl (List.mem_singleton.mp h)
theorem putL_nd {lib : Lib} {z : Str} {rs : List Row} (h : (lib.map (·.1)).Nodup) : ((putL lib z rs).map (·.1)).Nodup := by
  rw [putL_keys]
  split
  · exact h
  · rename_i c
    rw [List.nodup_append]
    refine ⟨h, by simp, fun x hx y hy e => c ?_⟩
    rw [List.mem_singleton.mp hy] at e
    rw [← e]; exact hx
theorem libAt_len {ok : Addr → Prop} {kk : Bool → Bool → Prop} {H : Hp} {kvs : List (Key × V)} {lib : Lib} (h : LibAt ok kk H kvs lib) : kvs.length = lib.length := paired_len h
theorem libAt_keys {ok : Addr → Prop} {kk : Bool → Bool → Prop} {H : Hp} {kvs : List (Key × V)} {lib : Lib} (h : LibAt ok kk H kvs lib) : kvs.map (·.1) = (lib.map (·.1)).map Sum.inr := by
  induction h with
  | nil => rfl
  | cons r t ih => rw [List.map_cons, List.map_cons, List.map_cons, ih, r.1]
/-- what a module of the library has -/
theorem libAt_val {ok : Addr → Prop} {kk : Bool → Bool → Prop} {H : Hp} {kvs : List (Key × V)} {lib : Lib} (h : LibAt ok kk H kvs lib) {z : Str} {rs : List Row} (hn : (lib.map (·.1)).Nodup) (hm : (z, rs) ∈ lib) : ∃ v, valV kvs (Sum.inr z) = some v ∧ RowsAt ok kk H 3 v rs := by
  induction h with
  | nil => cases hm
  | cons r t ih =>
    rename_i kv m kvs' lib'
    rw [List.map_cons, List.nodup_cons] at hn
    rcases List.mem_cons.mp hm with e | hm
    · subst e
      refine ⟨kv.2, ?_, r.2⟩
      unfold valV
      rw [List.find?_cons_of_pos (by rw [r.1]; exact decide_eq_true rfl)]
      rfl
    · obtain ⟨v, hv, hr⟩ := ih hn.2 hm
      refine ⟨v, ?_, hr⟩
      have : ¬ kv.1 = Sum.inr z := fun e => by
        rw [r.1] at e
        have e' := Sum.inr.inj e
        exact hn.1 (by rw [e']; exact List.mem_map.mpr ⟨_, hm, rfl⟩)
      unfold valV at hv ⊢
      rw [List.find?_cons_of_neg (by rw [decide_eq_false this]; exact Bool.false_ne_true)]
      exact hv
end Ft
set_option Elab.async false
set_option linter.all false
set_option maxRecDepth 100000
set_option maxHeartbeats 4000000
namespace Ft
open PySem L2
def anyE : Bool → Prop := fun _ => True
theorem At.any {ok : Addr → Prop} {kk : Bool → Prop} {H : Hp} {v : V} {xs : List V} (h : At ok kk H v xs) : At ok anyE H v xs := h.kinds fun _ _ => trivial
inductive E where
  | at (v : V)
  | sq (es : List E)
/-- how many things a tree of a level has at most: a module's rows 24, all else 8 -/
def bE (m : Nat) : Nat := if m ≤ 0 then 24 else 24
def EAt (ok : Addr → Prop) (kk : Bool → Prop) (H : Hp) : Nat → V → E → Prop
  | _, v, .at x => v = x ∧ isAtom x = true
  | m + 1, v, .sq es => ∃ xs, At ok kk H v xs ∧ es.length ≤ bE m ∧ Paired (EAt ok kk H m) xs es
  | 0, _, .sq _ => False
theorem EAt.gen {ok ok' : Addr → Prop} {kk kk' : Bool → Prop} {H H' : Hp} (t : Keep ok ok' H H') (tk : ∀ b, kk b → kk' b) : ∀ (m : Nat) (v : V) (e : E), EAt ok kk H m v e → EAt ok' kk' H' m v e := by
  intro m
  induction m with
  | zero =>
    intro v e h
    cases e with
    | «at» x => exact h
    | sq es => exact h.elim
  | succ m ih =>
    intro v e h
    cases e with
    | «at» x => exact h
    | sq es =>
      obtain ⟨xs, h1, h2, h3⟩ := h
      exact ⟨xs, (h1.to t).kinds tk, h2, paired_imp h3 ih⟩
theorem EAt.to {ok ok' : Addr → Prop} {kk : Bool → Prop} {H H' : Hp} {m : Nat} {v : V} {e : E} (h : EAt ok kk H m v e) (t : Keep ok ok' H H') : EAt ok' kk H' m v e := EAt.gen t (fun _ h => h) m v e h
theorem fld_atom {k : Bool} {v : V} (h : fldOk k v = true) : isAtom v = true := by
  cases k <;> cases v <;> first | rfl | cases h
theorem paired_impM {α β : Type} {R S : α → β → Prop} : ∀ {xs : List α} {ys : List β}, Paired R xs ys → (∀ x y, y ∈ ys → R x y → S x y) → Paired S xs ys
  | _, _, .nil, _ => .nil
  | _, _, .cons r t, f => .cons (f _ _ (by simp) r) (paired_impM t fun x y hy => f x y (by simp [hy]))
theorem plain_len {w : Str} {ks : List Bool} (h : (w, ks) ∈ plainT) : ks.length ≤ 3 := by
  have : ∀ p ∈ plainT, p.2.length ≤ 3 := by decide +kernel
  exact this _ h
theorem plain_atoms {wi : Bool} {w : Str} {fs : List V} (h : plainOk wi w fs) : (∀ v ∈ fs, isAtom v = true) ∧ fs.length ≤ 3 := by
  obtain ⟨ks, hk, hp, _⟩ := h
  refine ⟨fun v hv => ?_, by rw [← paired_len hp]; exact plain_len hk⟩
  obtain ⟨i, hi, e⟩ := List.mem_iff_getElem.mp hv
  obtain ⟨k, _, r⟩ := paired_getR hp (i := i) (y := v) (by rw [List.getElem?_eq_getElem hi, e])
  exact fld_atom r
end Ft
set_option Elab.async false
set_option linter.all false
set_option maxRecDepth 100000
set_option maxHeartbeats 4000000
namespace Ft
open PySem L2
theorem dpStrs {K : PySem.W.Frag} {H : Hp} : ∀ (zs : List Str), DpAll K H (zs.map V.str) (zs.map PyData.str)
  | [] => .nil
  | z :: zs => .cons (.str z) (dpStrs zs)
theorem isW_strOk {z : Str} (h : isW z = true) : PyData.strOk z = true := by
  unfold isW at h
  rw [Bool.and_eq_true, Bool.and_eq_true] at h
  unfold PyData.strOk
  rw [Array.all_eq_true']
  intro c hc
  have := List.all_eq_true.mp h.2.2 c (Array.mem_toList_iff.mpr hc)
  rw [Bool.and_eq_true] at this
  have h2 : c ≤ 122 := of_decide_eq_true this.2
  exact decide_eq_true (by omega)
theorem erase_perm {α : Type} : ∀ {l : List α} {k : Nat} {x : α}, l[k]? = some x → (x :: l.eraseIdx k).Perm l
  | [], k, x, h => by simp at h
  | y :: l, 0, x, h => by
    have e : y = x := Option.some.inj h
    subst e
    exact .refl _
  | y :: l, k + 1, x, h => by
    have ih := erase_perm (l := l) (k := k) (x := x) h
    exact (List.Perm.swap y x (l.eraseIdx k)).trans (ih.cons y)
theorem seqIx {j : Int} {n : Nat} (h0 : 0 ≤ j) (h1 : j < (n : Int)) : seqIndex? j n = some j.toNat := by
  have := (ixN_seq (n := n) (i := j) (j := j.toNat) (by unfold ixN; rw [if_pos h0, if_pos h1])).1
  exact this
end Ft
set_option Elab.async false
set_option linter.all false
set_option maxRecDepth 100000
set_option maxHeartbeats 4000000
set_option Elab.async false
set_option linter.all false
set_option maxRecDepth 100000
set_option maxHeartbeats 4000000
namespace Ft
open PySem L2
def topS (i : Nat) : Stmt := PySem.Challenge.pw_firsttouch_k13_late_sets_made.main.body.getD i (.Pass ⟨0, 0, 0, 0⟩)
end Ft
set_option Elab.async false
set_option linter.all false
set_option maxRecDepth 100000
set_option maxHeartbeats 4000000
namespace Ft
open PySem L2
def letters : Str := "abcdefghijklmnopqrstuvwxyz"
theorem letters_mem (c : Nat) : decide (c ∈ letters.cps.toList) = (decide (97 ≤ c) && decide (c ≤ 122)) := by
  have e : letters.cps.toList = List.range' 97 26 := by decide +kernel
  rw [e]
  have : (c ∈ List.range' 97 26) ↔ (97 ≤ c ∧ c ≤ 122) := by
    rw [List.mem_range'_1]
    omega
  by_cases h1 : 97 ≤ c
  · by_cases h2 : c ≤ 122
    · rw [decide_eq_true (this.mpr ⟨h1, h2⟩), decide_eq_true h1, decide_eq_true h2]; rfl
    · rw [decide_eq_false fun h => h2 (this.mp h).2, decide_eq_true h1, decide_eq_false h2]; rfl
  · rw [decide_eq_false fun h => h1 (this.mp h).1, decide_eq_false h1]; rfl
/-- whether a value is a word -/
def wordV : V → Bool
  | .str z => isW z
  | _ => false
/-- .. by its length alone -/
def lenV : V → Bool
  | .str z => decide (1 ≤ z.length) && decide (z.length ≤ 8)
  | _ => false
theorem lenV_str (z : Str) : lenV (.str z) = (decide (1 ≤ z.length) && decide (z.length ≤ 8)) := rfl
def intV : V → Bool
  | .int _ => true
  | _ => false
section
variable {P : Program} {w : World} {K : PySem.W.Frag} {mg : Str → Option Value} {base : Heap}
/-- what is known of any object that is asked -/
def Known (K : PySem.W.Frag) (H : Hp) (v : V) : Prop := (∃ z : Str, v = .str z ∧ z.length ≤ sizeLine) ∨ v = .non ∨ (∃ b, v = .bl b) ∨ (∃ i, v = .int i) ∨ ∃ a T, v = .ref a ∧ TyX K H v (.type T) ∧ T ∈ ["list", "tuple", "dict"]
abbrev sIsInteger : Stmt := topS 14
theorem scIsInteger : FnScope ["thing"] ["thing"] (defScope sIsInteger) := ⟨rfl, rfl, rfl, by decide +kernel, rfl, by decide +kernel, by decide +kernel⟩
def spIsInteger (K : PySem.W.Frag) : Sp := fun vs H Q _ => ∃ v, vs = [v] ∧ Known K H v ∧ Q (.bl (intV v)) H
theorem ok_IsInteger {f : Addr} {fd : FuncData} {k : Nat} (F : Fun K "is_integer" "is_integer" sIsInteger f fd) (B : Bl mg) : FnOk P w K mg base CX0 (k + 1) f fd ["thing"] (spIsInteger K) := by
  refine F.ok scIsInteger (fun vs H Q E h => ?_) (fun cdv A outer s H vs Q E hr h => ?_)
  · obtain ⟨v, rfl, _⟩ := h
    rfl
  obtain ⟨v, rfl, hv, q⟩ := h
  refine ⟨_, (pss_one (ps_ret (pe_and (pe_callB call_isi (by rfl) B.isinstance (by decide +kernel) (pa_cons (pv 0) (pa_cons (pe_bltn (v := .ty "int") (by rfl) B.int (by decide +kernel) rfl) pa_nil))) (pe_one (pe_not (pe_callB call_isi (by rfl) B.isinstance (by decide +kernel) (pa_cons (pv 0) (pa_cons (pe_bltn (v := .ty "bool") (by rfl) B.bool (by decide +kernel) rfl) pa_nil)))))))), ?_⟩
  rcases hv with ⟨z, rfl, hz⟩ | rfl | ⟨b, rfl⟩ | ⟨i, rfl⟩ | ⟨a, T, rfl, ht, hm⟩
  · exact ⟨_, rfl, _, _, _, _, _, rfl, .ty _, .base (.str z), kit_ty (r := false) (by decide +kernel), false, rfl, iteF q⟩
  · exact ⟨_, rfl, _, _, _, _, _, rfl, .ty _, .base .non, kit_ty (r := false) (by decide +kernel), false, rfl, iteF q⟩
  · exact ⟨_, rfl, _, _, _, _, _, rfl, .ty _, .base (.bl b), kit_ty (r := true) (by decide +kernel), true, rfl, iteT ⟨_, rfl, _, _, _, _, _, rfl, .ty _, .base (.bl b), kit_ty (r := true) (by decide +kernel), true, rfl, q⟩⟩
  · exact ⟨_, rfl, _, _, _, _, _, rfl, .ty _, .base (.int i), kit_ty (r := true) (by decide +kernel), true, rfl, iteT ⟨_, rfl, _, _, _, _, _, rfl, .ty _, .base (.int i), kit_ty (r := false) (by decide +kernel), false, rfl, q⟩⟩
  · have hk : kitB T "int" = some false := by
      have : ∀ T ∈ ["list", "tuple", "dict"], kitB T "int" = some false := by decide +kernel
      exact this T hm
    exact ⟨_, rfl, _, _, _, _, _, rfl, .ty _, ht, kit_ty hk, false, rfl, iteF q⟩
abbrev sIsWord : Stmt := topS 15
theorem scIsWord : FnScope ["thing", "sign"] ["thing"] (defScope sIsWord) := ⟨rfl, rfl, rfl, by decide +kernel, rfl, by decide +kernel, by decide +kernel⟩
def spIsWord (K : PySem.W.Frag) : Sp := fun vs H Q _ => ∃ v, vs = [v] ∧ Known K H v ∧ ∀ H', Same H H' → Q (.bl (wordV v)) H'
theorem ok_IsWord {f : Addr} {fd : FuncData} {k : Nat} {tL : Tok} (F : Fun K "is_word" "is_word" sIsWord f fd) (B : Bl mg) (mL : mg "LETTERS" = some (.str letters tL)) : FnOk P w K mg base CX0 (k + 1) f fd ["thing"] (spIsWord K) := by
  refine F.ok scIsWord (fun vs H Q E h => ?_) (fun cdv A outer s H vs Q E hr h => ?_)
  · obtain ⟨v, rfl, _⟩ := h
    rfl
  obtain ⟨v, rfl, hv, q⟩ := h
  refine ⟨_, (pss_cons (ps_if (pt_mid (PW.pt (pw_or (pt_not (pt_val (pe_callB call_isi (by rfl) B.isinstance (by decide +kernel) (pa_cons (pv 0) (pa_cons (pe_bltn (v := .ty "str") (by rfl) B.str (by decide +kernel) rfl) pa_nil))))) (pw_or1 (pt_not (pt_chain op_le op_le pe_int (pe_callB call_len_str (by rfl) B.len (by decide +kernel) (pa_cons (pv 0) pa_nil)) pe_int)))))) (pss_one (ps_ret pe_bl)) pss_nil)
      (pss_one (ps_ret (pe_callB (cr_all rfl) (by rfl) B.all (by decide +kernel) (pa_cons (pe_lc (own := [("sign", 1)]) (g := (gName 1)) (tt := tYes) (by rfl) scIsWord.nd (pi_str (pv 0)) (blkOk_by (own := [("sign", 1)]) (N := ["thing", "sign"]) (sc := defScope sIsWord) (by decide +kernel)) (fun _ _ _ _ _ => (pg_name (i := 1) scIsWord.nd rfl (by first | exact Or.inl rfl | exact Or.inr rfl))) (fun _ _ _ _ _ => pts_nil) (fun _ _ _ _ _ => (pe_cmpR op_in_sign (pv 1) (pe_glob (v := .str letters) (by rfl) mL ⟨_, rfl⟩) (by rfl)))) pa_nil))))), ?_⟩
  refine ⟨fun b H' => H = H' ∧ b = !lenV v, ?_, ?_⟩
  · have no : ∀ {T : String}, TyX K H v (.type T) → kitB T "str" = some false → lenV v = false → rIsi K [v, .ty "str"] H fun x H1 => ∃ k, x = V.bl k ∧ if (!k) = true then (H = H1 ∧ true = !lenV v) else False := fun {T} t hk hw =>
      ⟨_, _, _, _, _, rfl, .ty _, t, kit_ty hk, false, rfl, iteT ⟨rfl, by rw [hw]; rfl⟩⟩
    rcases hv with ⟨z, rfl, hz⟩ | rfl | ⟨b, rfl⟩ | ⟨i, rfl⟩ | ⟨a, T, rfl, ht, hm⟩
    · refine ⟨_, rfl, _, _, _, _, _, rfl, .ty _, .base (.str z), kit_ty (r := true) (by decide +kernel), true, rfl, iteF ?_⟩
      refine ⟨_, rfl, _, rfl, hz, 1, _, rfl, rfl, _, rfl, ite2 (fun c => ?_) (fun c => ?_)⟩
      · have c' : (1 : Int) ≤ z.length := of_decide_eq_true c
        refine ⟨_, 8, rfl, rfl, _, rfl, rfl, ?_⟩
        rw [lenV_str]
        have e1 : decide (1 ≤ z.length) = true := decide_eq_true (by omega)
        rw [e1, Bool.true_and]
        congr 1
        exact decide_eq_decide.mpr (by omega)
      · have c' : ¬ (1 : Int) ≤ z.length := fun h => c (decide_eq_true h)
        refine ⟨_, rfl, rfl, ?_⟩
        rw [lenV_str, decide_eq_false (show ¬ 1 ≤ z.length by omega)]
        rfl
    · exact ⟨_, rfl, _, _, _, _, _, rfl, .ty _, .base .non, kit_ty (r := false) (by decide +kernel), false, rfl, iteT ⟨rfl, rfl⟩⟩
    · exact ⟨_, rfl, _, _, _, _, _, rfl, .ty _, .base (.bl b), kit_ty (r := false) (by decide +kernel), false, rfl, iteT ⟨rfl, rfl⟩⟩
    · exact ⟨_, rfl, _, _, _, _, _, rfl, .ty _, .base (.int i), kit_ty (r := false) (by decide +kernel), false, rfl, iteT ⟨rfl, rfl⟩⟩
    · have hk : kitB T "str" = some false := by
        have : ∀ T ∈ ["list", "tuple", "dict"], kitB T "str" = some false := by decide +kernel
        exact this T hm
      exact ⟨_, rfl, _, _, _, _, _, rfl, .ty _, ht, kit_ty hk, false, rfl, iteT ⟨rfl, rfl⟩⟩
  rintro b _ ⟨rfl, rfl⟩
  cases hl : lenV v with
  | false =>
    refine iteT ?_
    have hw : wordV v = false := by
      cases v with
      | str z =>
        show isW z = false
        rw [lenV_str] at hl
        unfold isW
        rw [← Bool.and_assoc, hl]
        rfl
      | _ => rfl
    have := q H (Same.refl H)
    rw [hw] at this
    exact this
  | true =>
    refine iteF ?_
    obtain ⟨z, rfl⟩ : ∃ z, v = .str z := by
      cases v with
      | str z => exact ⟨z, rfl⟩
      | _ => cases hl
    have hw : wordV (.str z) = z.cps.toList.all fun c => decide (97 ≤ c) && decide (c ≤ 122) := by
      show isW z = _
      rw [lenV_str] at hl
      unfold isW
      rw [← Bool.and_assoc, hl]
      rfl
    have hsz : z.length ≤ 8 := by
      rw [lenV_str, Bool.and_eq_true] at hl
      exact of_decide_eq_true hl.2
    refine ⟨_, rfl, z, rfl, fun D nD => ?_⟩
    refine lc_it walk_str (fun i H' => Same H H' ∧ H' D = some (.lst (((z.cps.toList.take i).map fun c => decide (97 ≤ c) && decide (c ≤ 122)).map V.bl)))
      ⟨Same.new nD, upd_same⟩ (fun _ _ _ _ => trivial) ?_ ?_
    · rintro i x H1 H2 hi ⟨sm, hD⟩ ⟨rfl, c, hc, rfl⟩
      refine ⟨rfl, ?_⟩
      refine ⟨_, rfl, c, letters, rfl, rfl, _, hD, ?_, Same.upN sm nD, ?_⟩
      · rw [List.length_map, List.length_map, List.length_take]
        have : z.cps.toList.length = z.length := rfl
        exact small (by omega)
      · have hc' : z.cps.toList[i]? = some c := by rw [Array.getElem?_toList]; exact hc
        rw [upd_same, List.take_add_one, hc', List.map_append, List.map_append, letters_mem]
        rfl
    · rintro H1 ⟨sm, hD⟩
      have e : z.cps.toList.take z.cps.size = z.cps.toList := List.take_of_length_le (by simp)
      rw [e] at hD
      refine ⟨D, _, rfl, SqL.of hD, ?_⟩
      have e2 : ((z.cps.toList.map fun c => decide (97 ≤ c) && decide (c ≤ 122)).all id) = wordV (.str z) := by
        rw [hw, List.all_map]
        rfl
      rw [e2]
      exact q _ sm
end
end Ft
set_option Elab.async false
set_option linter.all false
set_option maxRecDepth 100000
set_option maxHeartbeats 4000000
namespace Ft
open PySem L2
theorem sl_seq {X : Cx} : SlR X (fun x lo hi H Q => rSlL X.K x lo hi H Q ∨ rSlT X.K x lo hi H Q) := SlR.or sl_list sl_tup
theorem TyOf.same {K : PySem.W.Frag} {H H' : Hp} {v : V} {t : Value} (h : TyOf K H v t) (s : Same H H') : TyOf K H' v t := by
  cases h with
  | non => exact .non
  | bl x => exact .bl x
  | int i => exact .int i
  | str x => exact .str x
  | flt x => exact .flt x
  | lst e => exact .lst (s _ _ e)
  | frz e => exact .frz (s _ _ e)
  | tup e => exact .tup (s _ _ e)
  | dK e => exact .dK (s _ _ e)
  | dT e => exact .dT (s _ _ e)
  | ins e a b c d f => exact .ins (s _ _ e) a b c d f
theorem TyX.same {K : PySem.W.Frag} {H H' : Hp} {v : V} {t : Value} (h : TyX K H v t) (s : Same H H') : TyX K H' v t := by
  cases h with
  | base h => exact .base (TyOf.same h s)
  | byt b => exact .byt b
  | set e => exact .set (s _ _ e)
  | kList e c => exact .kList e c
  | kTuple e c => exact .kTuple e c
  | kDict e c => exact .kDict e c
  | fTuple e => exact .fTuple (s _ _ e)
  | fDict e => exact .fDict (s _ _ e)
theorem Known.same {K : PySem.W.Frag} {H H' : Hp} {v : V} (h : Known K H v) (s : Same H H') : Known K H' v := by
  rcases h with h | h | h | h | ⟨a, T, e, t, m⟩
  · exact .inl h
  · exact .inr (.inl h)
  · exact .inr (.inr (.inl h))
  · exact .inr (.inr (.inr (.inl h)))
  · exact .inr (.inr (.inr (.inr ⟨a, T, e, TyX.same t s, m⟩)))
/-- .. and whether it is a list or a tuple -/
def KnownS (K : PySem.W.Frag) (H : Hp) (sq : V → Bool) (v : V) : Prop := Known K H v ∧ ∃ T, TyX K H v (.type T) ∧ kitAnyB T ["list", "tuple"] = some (sq v)
theorem KnownS.same {K : PySem.W.Frag} {H H' : Hp} {sq : V → Bool} {v : V} (h : KnownS K H sq v) (s : Same H H') : KnownS K H' sq v := by
  obtain ⟨h1, T, h2, h3⟩ := h
  exact ⟨h1.same s, T, TyX.same h2 s, h3⟩
theorem rIx_seq {kd : Bool} {K : PySem.W.Frag} {H : Hp} {a : Addr} {xs : List V} {i : Int} {v : V} {Q : VK} (h : Sq kd K H a xs) (e : atI xs i = some v) (q : Q v H) : rIx K (.ref a) (.int i) H Q := by
  cases kd with
  | true => exact .inl ⟨a, xs, i, v, rfl, rfl, h, e, q⟩
  | false => exact .inr (.inl ⟨a, xs, i, v, rfl, rfl, h, e, q⟩)
def fieldsT : List (Str × List Str) := [("load", ["word", "word"]), ("pick", ["word", "word", "word"]), ("put", ["word", "number"]), ("copy", ["word", "word"]), ("part", ["word", "word", "word"]), ("drop", ["word"]), ("say", ["number"]), ("tell", ["word"]), ("seen", ["word", "word"]), ("fail", ["number"]), ("make", ["word", "block"]), ("call", ["word"]), ("when", ["word", "block", "block"]), ("try", ["block", "block"])]
def fieldsOf (z : Str) : Option (List Str) := (fieldsT.find? fun p => decide (p.1 = z)).map (·.2)
theorem fieldsOf_some {z : Str} {fs : List Str} (h : fieldsOf z = some fs) : (z, fs) ∈ fieldsT := by
  unfold fieldsOf at h
  obtain ⟨p, hp, e⟩ := Option.map_eq_some_iff.mp h
  have h1 := List.mem_of_find?_eq_some hp
  have h2 : p.1 = z := by simpa using List.find?_some hp
  rw [← h2, ← e]
  exact h1
theorem fieldsOf_none {z : Str} (h : fieldsOf z = none) : z ∉ fieldsT.map (·.1) := by
  intro hz
  obtain ⟨p, hp, e⟩ := List.mem_map.mp hz
  unfold fieldsOf at h
  have := List.find?_eq_none.mp (Option.map_eq_none_iff.mp h) p hp
  exact this (decide_eq_true e)
theorem fields_len {z : Str} {fs : List Str} (h : (z, fs) ∈ fieldsT) : fs.length ≤ 3 := by
  have : ∀ p ∈ fieldsT, p.2.length ≤ 3 := by decide +kernel
  exact this _ h
/-- the written table of the fields -/
structure FldT (K : PySem.W.Frag) (w : World) (mg : Str → Option Value) (dF : Addr) : Prop where
  g : mg "FIELDS" = some (.ref dF)
  dict : ∃ es n, KDict K w dF es n
  val : ∀ p ∈ fieldsT, ∃ tA, PySem.W.nsIn K dF p.1 = some (some (.ref tA)) ∧ ∀ H, SqT K H tA (p.2.map V.str)
  no : ∀ z, z ∉ fieldsT.map (·.1) → PySem.W.nsIn K dF z = some none
def fieldB (sq : V → Bool) (f : Str) (v : V) : Bool := if f = "word" then wordV v else if f = "number" then intV v else sq v
/-- whether things are a row, but for the rows in its blocks -/
def rowB (sq : V → Bool) (wi : Bool) : List V → Bool
  | .str z :: rest => match fieldsOf z with
    | some fs => !(wi && (decide (z = "make") || decide (z = "call"))) && (decide (rest.length = fs.length) && ((fs.zip rest).all fun p => fieldB sq p.1 p.2))
    | none => false
  | _ => false
theorem rowB_str (sq : V → Bool) (wi : Bool) (z : Str) (rest : List V) : rowB sq wi (.str z :: rest) = match fieldsOf z with
    | some fs => !(wi && (decide (z = "make") || decide (z = "call"))) && (decide (rest.length = fs.length) && ((fs.zip rest).all fun p => fieldB sq p.1 p.2))
    | none => false := rfl
section
variable {P : Program} {w : World} {K : PySem.W.Frag} {mg : Str → Option Value} {base : Heap}
abbrev sIsField : Stmt := topS 20
theorem scIsField : FnScope ["field", "part"] ["field", "part"] (defScope sIsField) := ⟨rfl, rfl, rfl, by decide +kernel, rfl, by decide +kernel, by decide +kernel⟩
def spIsField (K : PySem.W.Frag) : Sp := fun vs H Q _ => ∃ (f : Str) (v : V) (sq : V → Bool), vs = [.str f, v] ∧ KnownS K H sq v ∧ ∀ H', Same H H' → Q (.bl (fieldB sq f v)) H'
theorem ok_IsField {f : Addr} {fd : FuncData} {k : Nat} (F : Fun K "is_field" "is_field" sIsField f fd) (B : Bl mg) (gIsWord : Own P w K mg base k "is_word" ["thing"] (spIsWord K)) (gIsInteger : Own P w K mg base k "is_integer" ["thing"] (spIsInteger K)) : FnOk P w K mg base CX0 (k + 1) f fd ["field", "part"] (spIsField K) := by
  refine F.ok scIsField (fun vs H Q E h => ?_) (fun cdv A outer s H vs Q E hr h => ?_)
  · obtain ⟨f, v, sq, rfl, _⟩ := h
    rfl
  obtain ⟨f, v, sq, rfl, hv, q⟩ := h
  refine ⟨_, (pss_cons (ps_if (pt_cmpR op_eq (pv 0) pe_str (nomark _)) (pss_one (ps_ret (pe_own gIsWord (hr.mono (by omega)) (by rfl) (pa_cons (pv 1) pa_nil)))) pss_nil)
      (pss_cons (ps_if (pt_cmpR op_eq (pv 0) pe_str (nomark _)) (pss_one (ps_ret (pe_own gIsInteger (hr.mono (by omega)) (by rfl) (pa_cons (pv 1) pa_nil)))) pss_nil)
      (pss_one (ps_ret (pe_callB call_isiT (by rfl) B.isinstance (by decide +kernel) (pa_cons (pv 1) (pa_cons (pe_tup (pa_cons (pe_bltn (v := .ty "list") (by rfl) B.list (by decide +kernel) rfl) (pa_cons (pe_bltn (v := .ty "tuple") (by rfl) B.tuple (by decide +kernel) rfl) pa_nil))) pa_nil))))))), ?_⟩
  refine ⟨_, rfl, rfl, _, rfl, ite2 (fun c => ?_) (fun c => ?_)⟩
  · have e : f = "word" := V.str.inj (of_decide_eq_true c)
    refine ⟨_, rfl, v, rfl, hv.1, fun H' sm => ?_⟩
    have := q H' sm
    unfold fieldB at this
    rw [if_pos e] at this
    exact this
  · have e : ¬ f = "word" := fun h => c (by rw [h]; exact decide_eq_true rfl)
    refine ⟨_, rfl, rfl, _, rfl, ite2 (fun c2 => ?_) (fun c2 => ?_)⟩
    · have e2 : f = "number" := V.str.inj (of_decide_eq_true c2)
      refine ⟨_, rfl, v, rfl, hv.1, ?_⟩
      have := q H (Same.refl H)
      unfold fieldB at this
      rw [if_neg e, if_pos e2] at this
      exact this
    · have e2 : ¬ f = "number" := fun h => c2 (by rw [h]; exact decide_eq_true rfl)
      obtain ⟨h1, T, h2, h3⟩ := hv
      refine ⟨_, rfl, (by show 2 ≤ sizeLine; decide), fun t0 nt => ?_⟩
      have := q _ (Same.new (o := .tup [.ty "list", .ty "tuple"]) nt)
      unfold fieldB at this
      rw [if_neg e, if_neg e2] at this
      exact ⟨_, t0, _, _, _, _, rfl, upd_same, clsV_all ["list", "tuple"], TyX.same h2 (Same.new nt), kitAny_of h3, this⟩
abbrev sIsRow : Stmt := topS 21
theorem scIsRow : FnScope ["thing", "is_within", "fields", "field", "part"] ["thing", "is_within"] (defScope sIsRow) := ⟨rfl, rfl, rfl, by decide +kernel, rfl, by decide +kernel, by decide +kernel⟩
def spIsRow (K : PySem.W.Frag) : Sp := fun vs H Q _ => ∃ (v : V) (wi : Bool), vs = [v, .bl wi] ∧
  ((∃ T, TyX K H v (.type T) ∧ kitAnyB T ["list", "tuple"] = some false ∧ ∀ H', Same H H' → Q (.bl false) H') ∨
   ∃ (a : Addr) (kd : Bool) (xs : List V) (sq : V → Bool), v = .ref a ∧ H a = some (mkO kd xs) ∧ xs.length ≤ 1000 ∧ (∀ x ∈ xs, KnownS K H sq x) ∧ ∀ H', Same H H' → Q (.bl (rowB sq wi xs)) H')
theorem ok_IsRow {f dF : Addr} {fd : FuncData} {k : Nat} (F : Fun K "is_row" "is_row" sIsRow f fd) (B : Bl mg) (TF : FldT K w mg dF) (gIsField : Own P w K mg base k "is_field" ["field", "part"] (spIsField K)) : FnOk P w K mg base CX0 (k + 1) f fd ["thing", "is_within"] (spIsRow K) := by
  obtain ⟨es, nn, D⟩ := TF.dict
  refine F.ok scIsRow (fun vs H Q E h => ?_) (fun cdv A outer s H vs Q E hr h => ?_)
  · obtain ⟨v, wi, rfl, _⟩ := h
    rfl
  obtain ⟨v, wi, rfl, hv⟩ := h
  refine ⟨_, (pss_cons (ps_if (PW.pt (pw_or (pt_not (pt_val (pe_callB call_isiT (by rfl) B.isinstance (by decide +kernel) (pa_cons (pv 0) (pa_cons (pe_tup (pa_cons (pe_bltn (v := .ty "list") (by rfl) B.list (by decide +kernel) rfl) (pa_cons (pe_bltn (v := .ty "tuple") (by rfl) B.tuple (by decide +kernel) rfl) pa_nil))) pa_nil))))) (pw_or1 (pt_cmpR op_eq (pe_callB call_len_seq (by rfl) B.len (by decide +kernel) (pa_cons (pv 0) pa_nil)) pe_int (nomark _))))) (pss_one (ps_ret pe_bl)) pss_nil)
      (pss_cons (ps_if (pt_mid (PW.pt (pw_or (pt_not (pt_val (pe_callB call_isi (by rfl) B.isinstance (by decide +kernel) (pa_cons (pe_ix ix_seq (pv 0) pe_int (fun _ _ => rfl)) (pa_cons (pe_bltn (v := .ty "str") (by rfl) B.str (by decide +kernel) rfl) pa_nil))))) (pw_or (pt_cmpR (op_notIn_kd D) (pe_ix ix_seq (pv 0) pe_int (fun _ _ => rfl)) (pe_glob (v := .ref dF) (by rfl) TF.g rfl) (by rfl)) (pw_or1 (PW.pt (pw_and (pt_val (pv 1)) (pw_and1 (pt_cmpR op_in_seq (pe_ix ix_seq (pv 0) pe_int (fun _ _ => rfl)) (pe_tup (pa_cons pe_str (pa_cons pe_str pa_nil))) (by rfl)))))))))) (pss_one (ps_ret pe_bl)) pss_nil)
      (pss_cons (ps_set (i := 2) scIsRow.nd rfl (by first | exact Or.inl rfl | exact Or.inr rfl) (pe_ix ix_kdict (pe_glob (v := .ref dF) (by rfl) TF.g rfl) (pe_ix ix_seq (pv 0) pe_int (fun _ _ => rfl)) (fun _ _ => rfl)))
      (pss_one (ps_ret (pe_and (pe_cmpR op_eq (pe_callB call_len_seq (by rfl) B.len (by decide +kernel) (pa_cons (pv 0) pa_nil)) (pe_op op_add (pe_callB call_len_seq (by rfl) B.len (by decide +kernel) (pa_cons (pv 2) pa_nil)) pe_int) (nomark _)) (pe_one (pe_callB (cr_all rfl) (by rfl) B.all (by decide +kernel) (pa_cons (pe_lc (own := [("field", 3), ("part", 4)]) (g := (gTup _ 2 (gCons (gName 3) (gCons (gName 4) gNil)))) (tt := tYes) (by rfl) scIsRow.nd (pi_zipQ (by rfl) B.zip (pa_cons (pv 2) (pa_cons (pe_mid (pe_slice sl_seq (pv 0) (po_some pe_int) po_none)) pa_nil))) (blkOk_by (own := [("field", 3), ("part", 4)]) (N := ["thing", "is_within", "fields", "field", "part"]) (sc := defScope sIsRow) (by decide +kernel)) (fun _ _ _ _ _ => (pg_tup (by rfl) (pgs_cons (pg_name (i := 3) scIsRow.nd rfl (by first | exact Or.inl rfl | exact Or.inr rfl)) (pgs_cons (pg_name (i := 4) scIsRow.nd rfl (by first | exact Or.inl rfl | exact Or.inr rfl)) pgs_nil)))) (fun _ _ _ _ _ => pts_nil) (fun _ _ _ _ _ => (pe_own gIsField (hr.mono (by omega)) (by rfl) (pa_cons (pv 3) (pa_cons (pv 4) pa_nil))))) pa_nil))))))))), ?_⟩
  have lt : ∀ t0, H t0 = none → (upd H t0 (.tup [.ty "list", .ty "tuple"])) t0 = some (.tup ((["list", "tuple"] : List String).map V.ty)) := fun _ _ => upd_same
  refine ⟨_, rfl, (by show 2 ≤ sizeLine; decide), fun t0 nt => ?_⟩
  have s0 : Same H (upd H t0 (.tup [.ty "list", .ty "tuple"])) := Same.new nt
  rcases hv with ⟨T, h1, h2, q⟩ | ⟨a, kd, xs, sq, rfl, ha, hlen, hxs, q⟩
  · exact ⟨_, t0, _, _, _, _, rfl, upd_same, clsV_all ["list", "tuple"], TyX.same h1 s0, kitAny_of h2, false, rfl, iteT (q _ s0)⟩
  have ha0 := s0 _ _ ha
  refine ⟨_, t0, _, _, _, _, rfl, upd_same, clsV_all ["list", "tuple"], seq_ty ha0, kitAny_of (seq_lt kd), true, rfl, iteF ?_⟩
  refine ⟨_, rfl, a, xs, rfl, sqa_of (sq_of ha0), rfl, _, rfl, ?_⟩
  cases xs with
  | nil => exact iteT (q _ s0)
  | cons x0 rest =>
    have e0 : decide (V.int (((x0 :: rest : List V).length : Nat) : Int) = V.int 0) = false := decide_eq_false (fun e => by
      have := V.int.inj e
      simp at this
      omega)
    rw [e0]
    refine iteF ?_
    generalize hG : upd H t0 _ = G at *
    have hx0 : KnownS K G sq x0 := (hxs x0 (by simp)).same s0
    have ix : ∀ {Q' : VK}, Q' x0 G → rIx K (.ref a) (.int 0) G Q' := fun h => rIx_seq (sq_of ha0) (atI_nat (j := 0) rfl) h
    -- no word of a row at all
    have no : (∀ z, x0 ≠ .str z) → rowB sq wi (x0 :: rest) = false := fun h => by
      unfold rowB
      cases x0 with
      | str z => exact absurd rfl (h z)
      | _ => rfl
    have noQ : ∀ H', Same H H' → rowB sq wi (x0 :: rest) = false → Q (.bl false) H' := fun H' sm e => by
      have := q H' sm
      rw [e] at this
      exact this
    refine ⟨fun b H' => Same H H' ∧ (b = true → rowB sq wi (x0 :: rest) = false) ∧ (b = false → ∃ z fs, x0 = .str z ∧ fieldsOf z = some fs ∧ (wi && (decide (z = "make") || decide (z = "call"))) = false), ?_, ?_⟩
    · rcases hx0.1 with ⟨z, rfl, hz⟩ | rfl | ⟨b, rfl⟩ | ⟨i, rfl⟩ | ⟨a', T, rfl, ht, hm⟩
      rotate_left
      · exact ⟨_, rfl, ix ⟨_, _, _, _, _, rfl, .ty _, .base .non, kit_ty (r := false) (by decide +kernel), false, rfl, iteT ⟨s0, fun _ => no fun z e => (nomatch e), fun e => (nomatch e)⟩⟩⟩
      · exact ⟨_, rfl, ix ⟨_, _, _, _, _, rfl, .ty _, .base (.bl b), kit_ty (r := false) (by decide +kernel), false, rfl, iteT ⟨s0, fun _ => no fun z e => (nomatch e), fun e => (nomatch e)⟩⟩⟩
      · exact ⟨_, rfl, ix ⟨_, _, _, _, _, rfl, .ty _, .base (.int i), kit_ty (r := false) (by decide +kernel), false, rfl, iteT ⟨s0, fun _ => no fun z e => (nomatch e), fun e => (nomatch e)⟩⟩⟩
      · have hk : kitB T "str" = some false := by
          have : ∀ T ∈ ["list", "tuple", "dict"], kitB T "str" = some false := by decide +kernel
          exact this T hm
        exact ⟨_, rfl, ix ⟨_, _, _, _, _, rfl, .ty _, ht, kit_ty hk, false, rfl, iteT ⟨s0, fun _ => no fun z e => (nomatch e), fun e => (nomatch e)⟩⟩⟩
      refine ⟨_, rfl, ix ⟨_, _, _, _, _, rfl, .ty _, .base (.str z), kit_ty (r := true) (by decide +kernel), true, rfl, iteF ?_⟩⟩
      -- thing[0] not in FIELDS
      cases hf : fieldsOf z with
      | none =>
        have e : rowB sq wi (.str z :: rest) = false := by
          rw [rowB_str, hf]
        exact ⟨_, rfl, ix ⟨z, none, rfl, rfl, TF.no z (fieldsOf_none hf), true, rfl, iteT ⟨s0, fun _ => e, fun e => (nomatch e)⟩⟩⟩
      | some fs =>
        have hfs := fieldsOf_some hf
        obtain ⟨tA, hn, htA⟩ := TF.val _ hfs
        refine ⟨_, rfl, ix ⟨z, some (.ref tA), rfl, rfl, hn, false, rfl, iteF ?_⟩⟩
        cases wi with
        | false => exact ⟨_, rfl, false, rfl, iteF ⟨s0, fun e => (nomatch e), fun _ => ⟨z, fs, rfl, hf, rfl⟩⟩⟩
        | true =>
          refine ⟨_, rfl, true, rfl, iteT ⟨_, rfl, ix ⟨(by show 2 ≤ sizeLine; decide), fun t1 nt1 => ?_⟩⟩⟩
          have mc : inV (.str z) [.str "make", .str "call"] = (decide (z = "make") || decide (z = "call")) := by
            show (eqV (.str "make") (.str z) || (eqV (.str "call") (.str z) || false)) = _
            rw [Bool.or_false]
            have h1 : ∀ a b : Str, eqV (.str a) (.str b) = decide (b = a) := fun a b => by
              show (a == b) = _
              by_cases e : b = a
              · rw [e]; simp
              · have e' : ¬ a = b := fun h => e h.symm
                simp [e, e']
            rw [h1, h1]
          refine ⟨t1, _, rfl, .inr (SqT.of upd_same), rfl, rfl, _, rfl, Same.trans s0 (Same.new nt1), fun e => ?_, fun e => ⟨z, fs, rfl, hf, ?_⟩⟩
          · have e' : (decide (z = "make") || decide (z = "call")) = true := by rw [← mc]; exact e
            rw [rowB_str, hf]
            show (!(true && (decide (z = "make") || decide (z = "call"))) && _) = false
            rw [e']
            rfl
          · rw [Bool.true_and, ← mc]
            exact e
    rintro b G2 ⟨sm, hT, hF⟩
    cases b with
    | true => exact iteT (noQ _ sm (hT rfl))
    | false =>
      refine iteF ?_
      obtain ⟨z, fs, rfl, hf, hno⟩ := hF rfl
      have hfs := fieldsOf_some hf
      obtain ⟨tA, hn, htA⟩ := TF.val _ hfs
      have er : rowB sq wi (.str z :: rest) = (decide (rest.length = fs.length) && ((fs.zip rest).all fun p => fieldB sq p.1 p.2)) := by
        rw [rowB_str, hf]
        show (!(wi && (decide (z = "make") || decide (z = "call"))) && _) = _
        rw [hno]
        rfl
      have ha2 : G2 a = some (mkO kd (.str z :: rest)) := sm _ _ ha
      have ix2 : ∀ {Q' : VK}, Q' (.str z) G2 → rIx K (.ref a) (.int 0) G2 Q' := fun h => rIx_seq (sq_of ha2) (atI_nat (j := 0) rfl) h
      refine ⟨_, rfl, ix2 ⟨dF, z, .ref tA, rfl, rfl, ⟨es, nn, .ref tA, D.at_, D.lit, hn, rfl⟩, ?_⟩⟩
      have l3 := fields_len hfs
      -- the length
      refine ⟨_, rfl, a, _, rfl, sqa_of (sq_of ha2), _, rfl, tA, _, rfl, .inr (htA G2), _, 1, rfl, rfl, rfl, _, rfl, ?_⟩
      have el : decide (V.int ((((.str z :: rest : List V)).length : Nat) : Int) = V.int ((((fs.map V.str).length : Nat) : Int) + 1)) = decide (rest.length = fs.length) := decide_eq_decide.mpr (by
        rw [List.length_map, List.length_cons]
        constructor
        · intro e
          have := V.int.inj e
          omega
        · intro e
          rw [e]
          rfl)
      refine ite2 (fun c => ?_) (fun c => ?_)
      · have c' : rest.length = fs.length := of_decide_eq_true (el.symm.trans c)
        -- all of the fields
        have cutq : cutV (.str z :: rest) (some 1) none = rest := by
          unfold cutV
          rw [show HT.sIx (V.str z :: rest).length 0 (some 1) = min 1 (V.str z :: rest).length from HT.sIx_nat _ 0 1, HT.sIx_none]
          rw [show min 1 (V.str z :: rest).length = 1 by rw [List.length_cons]; omega]
          show List.take (rest.length + 1 - 1) rest = rest
          rw [Nat.add_sub_cancel, List.take_length]
        refine ⟨_, rfl, ⟨fun v H' => ∃ p kd2, v = .ref p ∧ H' p = some (mkO kd2 rest) ∧ Same G2 H', ?_, ?_⟩⟩
        · have whole : ¬ (HT.sIx (V.str z :: rest).length 0 (some 1) = 0 ∧ HT.sIx (V.str z :: rest).length (V.str z :: rest).length none = (V.str z :: rest).length) := fun ⟨e, _⟩ => by
            rw [show HT.sIx (V.str z :: rest).length 0 (some 1) = min 1 (V.str z :: rest).length from HT.sIx_nat _ 0 1, List.length_cons] at e
            omega
          cases kd with
          | true => exact ⟨_, rfl, 1, rfl, .inl ⟨a, _, rfl, SqL.of ha2, fun p np => ⟨p, true, rfl, by rw [upd_same, cutq]; rfl, Same.new np⟩⟩⟩
          | false => exact ⟨_, rfl, 1, rfl, .inr ⟨a, _, rfl, SqT.of ha2, whole, fun p np => ⟨p, false, rfl, by rw [upd_same, cutq]; rfl, Same.new np⟩⟩⟩
        rintro v G3 ⟨p, kd2, rfl, hp3, sm3⟩
        refine ⟨tA, p, false, kd2, fs.map V.str, rest, rfl, htA G3, sq_of hp3, fun L nL => ?_⟩
        have lm : (fs.map V.str).length = fs.length := List.length_map _
        refine lc_it (walk_zipQ (n := fs.length) (by rw [lm]; omega)) (fun i H' => Same G3 H' ∧ H' L = some (.lst ((((fs.zip rest).take i).map fun p => fieldB sq p.1 p.2).map V.bl)))
          ⟨Same.new nL, upd_same⟩ (fun i H' _ ⟨s4, _⟩ => ⟨htA H', sq_of (s4 _ _ hp3)⟩) ?_ ?_
        · rintro i x H1 H2 hi ⟨s4, hL⟩ ⟨T, x1, x2, rfl, nT, rfl, e1, e2⟩
          obtain ⟨ff, hff, rfl⟩ : ∃ ff, fs[i]? = some ff ∧ x1 = .str ff := by
            have e1' : (fs.map V.str)[i]? = some x1 := e1
            rw [List.getElem?_map] at e1'
            obtain ⟨ff, h1, h2⟩ := Option.map_eq_some_iff.mp e1'
            exact ⟨ff, h1, h2.symm⟩
          have s5 : Same G3 (upd H1 T (.tup [.str ff, x2])) := Same.trans s4 (Same.new nT)
          have kn : KnownS K (upd H1 T (.tup [.str ff, x2])) sq x2 := (hxs x2 (List.mem_cons_of_mem _ (List.mem_of_getElem? e2))).same (Same.trans sm (Same.trans sm3 s5))
          refine ⟨T, _, rfl, SqT.of upd_same, rfl, _, _, rfl, _, _, rfl, rfl, rfl, ?_⟩
          refine ⟨_, rfl, _, rfl, ff, x2, sq, rfl, kn, fun H3 s6 => ?_⟩
          have nLT : L ≠ T := ne_of_none hL nT
          have hL3 : H3 L = some (.lst ((((fs.zip rest).take i).map fun p => fieldB sq p.1 p.2).map V.bl)) := s6 _ _ (by rw [upd_ne nLT]; exact hL)
          refine ⟨_, hL3, ?_, Same.upN (Same.trans s5 s6) nL, ?_⟩
          · rw [List.length_map, List.length_map, List.length_take]
            exact small (by omega)
          · have ez : (fs.zip rest)[i]? = some (ff, x2) := List.getElem?_zip_eq_some.mpr ⟨hff, e2⟩
            rw [upd_same, List.take_add_one, ez, List.map_append, List.map_append]
            rfl
        · rintro H1 ⟨s4, hL⟩
          have e : (fs.zip rest).take fs.length = fs.zip rest := List.take_of_length_le (by rw [List.length_zip]; omega)
          rw [e] at hL
          refine ⟨L, _, rfl, SqL.of hL, ?_⟩
          have e2 : (((fs.zip rest).map fun p => fieldB sq p.1 p.2).all id) = rowB sq wi (.str z :: rest) := by
            rw [er, decide_eq_true c', Bool.true_and, List.all_map]
            rfl
          rw [e2]
          exact q _ (Same.trans sm (Same.trans sm3 s4))
      · have c' : ¬ rest.length = fs.length := fun e => c (el.trans (decide_eq_true e))
        have e : rowB sq wi (.str z :: rest) = false := by rw [er, decide_eq_false c']; rfl
        exact noQ _ sm e
end
end Ft
set_option Elab.async false
set_option linter.all false
set_option maxRecDepth 100000
set_option maxHeartbeats 4000000
namespace Ft
open PySem L2
def rowWord : Row → Str
  | .plain w _ => w
  | .make _ _ => "make"
  | .when _ _ _ => "when"
  | .try_ _ _ => "try"
def blocks : Row → List (List Row)
  | .plain _ _ => []
  | .make _ b => [b]
  | .when _ b c => [b, c]
  | .try_ b c => [b, c]
inductive Fl where
  | at (v : V)
  | blk (b : List Row)
def flds : Row → List (Str × Fl)
  | .plain w fs => ((fieldsOf w).getD []).zip (fs.map Fl.at)
  | .make n b => [("word", .at (.str n)), ("block", .blk b)]
  | .when n b c => [("word", .at (.str n)), ("block", .blk b), ("block", .blk c)]
  | .try_ b c => [("block", .blk b), ("block", .blk c)]
def FlAt (ok : Addr → Prop) (kk : Bool → Bool → Prop) (H : Hp) (d : Nat) (v : V) : Fl → Prop
  | .at x => v = x
  | .blk b => ∃ e, d = e + 1 ∧ RowsAt ok kk H e v b
def FlOk (d : Nat) (wi : Bool) (name : Str) : Fl → Prop
  | .at x => (name = "word" ∧ wordV x = true) ∨ (name = "number" ∧ ∃ i, x = .int i ∧ -999 ≤ i ∧ i ≤ 999)
  | .blk b => name = "block" ∧ ∃ e, d = e + 1 ∧ b.length ≤ 24 ∧ ∀ r ∈ b, RowOk e wi r
theorem plainT_fields : ∀ p ∈ plainT, fieldsOf p.1 = some (p.2.map fun b => if b then ("word" : Str) else "number") := by decide +kernel
theorem plainT_make : ∀ p ∈ plainT, p.1 ≠ "make" := by decide +kernel
theorem fld_plain {k : Bool} {v : V} (h : fldOk k v = true) (d : Nat) (wi : Bool) : FlOk d wi (if k then "word" else "number") (.at v) := by
  cases k with
  | true =>
    cases v with
    | str z => exact .inl ⟨rfl, h⟩
    | _ => cases h
  | false =>
    cases v with
    | int i =>
      unfold fldOk at h
      rw [Bool.and_eq_true] at h
      exact .inr ⟨rfl, i, rfl, of_decide_eq_true h.1, of_decide_eq_true h.2⟩
    | _ => cases h
theorem flds_plain {wi : Bool} {w : Str} {fs : List V} (h : plainOk wi w fs) (d : Nat) (wi' : Bool) : ∃ names, fieldsOf w = some names ∧ names.length = fs.length ∧ (names.zip (fs.map Fl.at)).map (·.1) = names ∧ ∀ f ∈ names.zip (fs.map Fl.at), FlOk d wi' f.1 f.2 := by
  obtain ⟨ks, hk, hp, _⟩ := h
  have e := plainT_fields _ hk
  have hl := paired_len hp
  have go : ∀ {ks : List Bool} {fs : List V}, Paired (fun k v => fldOk k v = true) ks fs → ((ks.map fun b => if b then ("word" : Str) else "number").zip (fs.map Fl.at)).map (·.1) = (ks.map fun b => if b then ("word" : Str) else "number") ∧ ∀ f ∈ (ks.map fun b => if b then ("word" : Str) else "number").zip (fs.map Fl.at), FlOk d wi' f.1 f.2 := by
    intro ks fs h
    induction h with
    | nil => exact ⟨rfl, fun f hf => by cases hf⟩
    | cons r t ih =>
      refine ⟨by rw [List.map_cons, List.map_cons, List.zip_cons_cons, List.map_cons, ih.1], fun f hf => ?_⟩
      rw [List.map_cons, List.map_cons, List.zip_cons_cons] at hf
      rcases List.mem_cons.mp hf with e | hf
      · rw [e]; exact fld_plain r d wi'
      · exact ih.2 f hf
  exact ⟨_, e, by rw [List.length_map]; exact hl, (go hp).1, (go hp).2⟩
structure RowF (d : Nat) (wi : Bool) (r : Row) : Prop where
  names : fieldsOf (rowWord r) = some ((flds r).map (·.1))
  ok : ∀ f ∈ flds r, FlOk d (wi || decide (rowWord r = "make")) f.1 f.2
  few : (flds r).length ≤ 3
  one : 1 ≤ (flds r).length
  word : (wi && (decide (rowWord r = "make") || decide (rowWord r = "call"))) = false
  blk : blocks r = (flds r).filterMap fun f => match f.2 with
    | .blk b => some b
    | .at _ => none
theorem rowF_of {wi : Bool} {r : Row} : ∀ {d : Nat}, RowOk d wi r → RowF d wi r := by
  intro d h
  have plain : ∀ {w : Str} {fs : List V}, plainOk wi w fs → RowF d wi (.plain w fs) := by
    intro w fs h
    obtain ⟨ks, hk, hp, hc⟩ := id h
    have nm : w ≠ "make" := plainT_make _ hk
    obtain ⟨names, e, hl, hz, hok⟩ := flds_plain h d (wi || decide (w = "make"))
    have ef : flds (.plain w fs) = names.zip (fs.map Fl.at) := by
      show ((fieldsOf w).getD []).zip (fs.map Fl.at) = _
      rw [e]; rfl
    have f3 := (plain_atoms h).2
    have f1 : ∀ p ∈ plainT, 1 ≤ p.2.length := by decide +kernel
    have l1 := f1 _ hk
    have l2 := paired_len hp
    refine ⟨by rw [ef, hz]; exact e, by rw [ef]; exact hok, ?_, ?_, ?_, ?_⟩
    · rw [ef, List.length_zip, List.length_map]; omega
    · rw [ef, List.length_zip, List.length_map]
      have : 1 ≤ ks.length := l1
      omega
    · cases wi with
      | false => rfl
      | true =>
        show (decide (w = "make") || decide (w = "call")) = false
        rw [decide_eq_false nm, decide_eq_false (hc rfl)]
        rfl
    · rw [ef]
      show [] = _
      symm
      rw [List.filterMap_eq_nil_iff]
      intro f hf
      obtain ⟨v, _, hv⟩ := List.mem_map.mp (List.of_mem_zip hf).2
      rw [← hv]
  cases d with
  | zero =>
    cases r with
    | plain w fs => exact plain h
    | _ => exact h.elim
  | succ d =>
    cases r with
    | plain w fs => exact plain h
    | make n b =>
      obtain ⟨h1, h2, h3, h4⟩ := h
      subst h1
      refine ⟨by show fieldsOf "make" = some (["word", "block"] : List Str); decide +kernel, fun f hf => ?_, by show 2 ≤ 3; decide, by show 1 ≤ 2; decide, rfl, rfl⟩
      rcases List.mem_cons.mp hf with e | hf
      · rw [e]; exact .inl ⟨rfl, h2⟩
      · rw [List.mem_singleton.mp hf]
        exact ⟨rfl, d, rfl, h3, h4⟩
    | when n b c =>
      obtain ⟨h1, h2, h3, h4, h5⟩ := h
      have ew : (wi || decide (rowWord (.when n b c) = "make")) = wi := by
        show (wi || decide (("when" : Str) = "make")) = wi
        rw [show decide (("when" : Str) = "make") = false by decide +kernel, Bool.or_false]
      refine ⟨by show fieldsOf "when" = some (["word", "block", "block"] : List Str); decide +kernel, fun f hf => ?_, by show 3 ≤ 3; decide, by show 1 ≤ 3; decide, ?_, rfl⟩
      · rw [ew]
        rcases List.mem_cons.mp hf with e | hf
        · rw [e]; exact .inl ⟨rfl, h1⟩
        · rcases List.mem_cons.mp hf with e | hf
          · rw [e]; exact ⟨rfl, d, rfl, h2, h4⟩
          · rw [List.mem_singleton.mp hf]; exact ⟨rfl, d, rfl, h3, h5⟩
      · show (wi && (decide (("when" : Str) = "make") || decide (("when" : Str) = "call"))) = false
        rw [show decide (("when" : Str) = "make") = false by decide +kernel, show decide (("when" : Str) = "call") = false by decide +kernel, Bool.or_false, Bool.and_false]
    | try_ b c =>
      obtain ⟨h2, h3, h4, h5⟩ := h
      have ew : (wi || decide (rowWord (.try_ b c) = "make")) = wi := by
        show (wi || decide (("try" : Str) = "make")) = wi
        rw [show decide (("try" : Str) = "make") = false by decide +kernel, Bool.or_false]
      refine ⟨by show fieldsOf "try" = some (["block", "block"] : List Str); decide +kernel, fun f hf => ?_, by show 2 ≤ 3; decide, by show 1 ≤ 2; decide, ?_, rfl⟩
      · rw [ew]
        rcases List.mem_cons.mp hf with e | hf
        · rw [e]; exact ⟨rfl, d, rfl, h2, h4⟩
        · rw [List.mem_singleton.mp hf]; exact ⟨rfl, d, rfl, h3, h5⟩
      · show (wi && (decide (("try" : Str) = "make") || decide (("try" : Str) = "call"))) = false
        rw [show decide (("try" : Str) = "make") = false by decide +kernel, show decide (("try" : Str) = "call") = false by decide +kernel, Bool.or_false, Bool.and_false]
section
variable {ok : Addr → Prop} {kk : Bool → Bool → Prop} {H : Hp}
theorem zip_at : ∀ {names : List Str} {fs : List V} {d : Nat}, names.length = fs.length → Paired (fun x (f : Str × Fl) => FlAt ok kk H d x f.2) fs (names.zip (fs.map Fl.at))
  | [], [], _, _ => .nil
  | [], _ :: _, _, h => by cases h
  | _ :: _, [], _, h => by cases h
  | n :: names, v :: fs, d, h => .cons rfl (zip_at (Nat.succ.inj h))
theorem zip_at' : ∀ {names : List Str} {fs rest : List V} {d : Nat}, names.length = fs.length → Paired (fun x (f : Str × Fl) => FlAt ok kk H d x f.2) rest (names.zip (fs.map Fl.at)) → rest = fs
  | [], [], rest, _, _, h => by cases h; rfl
  | [], _ :: _, _, _, h, _ => by cases h
  | _ :: _, [], _, _, h, _ => by cases h
  | n :: names, v :: fs, [], d, h, q => by cases q
  | n :: names, v :: fs, x :: rest, d, h, q => by
    cases q with
    | cons r t =>
      have e : x = v := r
      rw [e, zip_at' (Nat.succ.inj h) t]
/-- a row's things, by its fields -/
theorem rowV_of {wi : Bool} {r : Row} {v : V} : ∀ {d : Nat}, RowOk d wi r → RowAt ok kk H d v r → ∃ rest, At ok (kk false) H v (.str (rowWord r) :: rest) ∧ Paired (fun x (f : Str × Fl) => FlAt ok kk H d x f.2) rest (flds r) := by
  intro d hk h
  have plain : ∀ {w : Str} {fs : List V}, plainOk wi w fs → At ok (kk false) H v (.str w :: fs) → ∃ rest, At ok (kk false) H v (.str w :: rest) ∧ Paired (fun x (f : Str × Fl) => FlAt ok kk H d x f.2) rest (flds (.plain w fs)) := by
    intro w fs hk h
    obtain ⟨names, e, hl, _, _⟩ := flds_plain hk 0 false
    refine ⟨fs, h, ?_⟩
    show Paired _ fs (((fieldsOf w).getD []).zip (fs.map Fl.at))
    rw [e]
    exact zip_at hl
  cases d with
  | zero =>
    cases r with
    | plain w fs => exact plain hk h
    | _ => exact h.elim
  | succ d =>
    cases r with
    | plain w fs => exact plain hk h
    | make n b =>
      obtain ⟨vb, xs, h1, h2, h3⟩ := h
      exact ⟨_, h1, .cons rfl (.cons ⟨d, rfl, xs, h2, h3⟩ .nil)⟩
    | when n b c =>
      obtain ⟨vb, xs, vc, ys, h1, h2, h3, h4, h5⟩ := h
      exact ⟨_, h1, .cons rfl (.cons ⟨d, rfl, xs, h2, h3⟩ (.cons ⟨d, rfl, ys, h4, h5⟩ .nil))⟩
    | try_ b c =>
      obtain ⟨vb, xs, vc, ys, h1, h2, h3, h4, h5⟩ := h
      exact ⟨_, h1, .cons ⟨d, rfl, xs, h2, h3⟩ (.cons ⟨d, rfl, ys, h4, h5⟩ .nil)⟩
theorem rowAt_of {wi : Bool} {r : Row} {v : V} {rest : List V} : ∀ {d : Nat}, RowOk d wi r → At ok (kk false) H v (.str (rowWord r) :: rest) → Paired (fun x (f : Str × Fl) => FlAt ok kk H d x f.2) rest (flds r) → RowAt ok kk H d v r := by
  intro d hk h q
  have plain : ∀ {w : Str} {fs : List V}, plainOk wi w fs → Paired (fun x (f : Str × Fl) => FlAt ok kk H d x f.2) rest (flds (.plain w fs)) → rest = fs := by
    intro w fs hk h
    obtain ⟨names, e, hl, _, _⟩ := flds_plain hk 0 false
    have h' : Paired (fun x (f : Str × Fl) => FlAt ok kk H d x f.2) rest (((fieldsOf w).getD []).zip (fs.map Fl.at)) := h
    rw [e] at h'
    exact zip_at' hl h'
  cases d with
  | zero =>
    cases r with
    | plain w fs => rw [plain hk q] at h; exact h
    | _ => exact hk.elim
  | succ d =>
    cases r with
    | plain w fs => rw [plain hk q] at h; exact h
    | make n b =>
      cases q with
      | cons r1 t =>
        cases t with
        | cons r2 t =>
          cases t
          obtain ⟨e, he, xs, h2, h3⟩ := r2
          have e1 := Nat.succ.inj he
          subst e1
          have e2 := r1
          cases e2
          exact ⟨_, xs, h, h2, h3⟩
    | when n b c =>
      cases q with
      | cons r1 t =>
        cases t with
        | cons r2 t =>
          cases t with
          | cons r3 t =>
            cases t
            obtain ⟨e, he, xs, h2, h3⟩ := r2
            have e1 := Nat.succ.inj he
            subst e1
            obtain ⟨e, he, ys, h4, h5⟩ := r3
            have e1 := Nat.succ.inj he
            subst e1
            have e2 := r1
            cases e2
            exact ⟨_, xs, _, ys, h, h2, h3, h4, h5⟩
    | try_ b c =>
      cases q with
      | cons r2 t =>
        cases t with
        | cons r3 t =>
          cases t
          obtain ⟨e, he, xs, h2, h3⟩ := r2
          have e1 := Nat.succ.inj he
          subst e1
          obtain ⟨e, he, ys, h4, h5⟩ := r3
          have e1 := Nat.succ.inj he
          subst e1
          exact ⟨_, xs, _, ys, h, h2, h3, h4, h5⟩
end
end Ft
set_option Elab.async false
set_option linter.all false
set_option maxRecDepth 100000
set_option maxHeartbeats 4000000
namespace Ft
open PySem L2
def aD : V → PyData
  | .bl b => .bool b
  | .int i => .int i
  | .str z => .str z
  | _ => .none
mutual
def dtD : DT → PyData
  | .at v => aD v
  | .sq true ts => .list (dtDs ts)
  | .sq false ts => .tuple (dtDs ts)
def dtDs : List DT → List PyData
  | [] => []
  | t :: ts => dtD t :: dtDs ts
end
mutual
/-- all texts within are texts of Python -/
def dtOk : DT → Bool
  | .at (.str z) => PyData.strOk z
  | .at _ => true
  | .sq _ ts => dtOks ts
def dtOks : List DT → Bool
  | [] => true
  | t :: ts => dtOk t && dtOks ts
end
theorem dp_dt {K : PySem.W.Frag} {H : Hp} : ∀ (m : Nat) (v : V) (t : DT), DtAt H m v t → Dp K H v (dtD t) := by
  have atom : ∀ {v x : V}, v = x → isAtom x = true → Dp K H v (dtD (.at x)) := by
    intro v x e h
    subst e
    rw [dtD]
    cases v with
    | non => exact .non
    | bl b => exact .bl b
    | int i => exact .int i
    | str z => exact .str z
    | _ => cases h
  intro m
  induction m with
  | zero =>
    intro v t h
    cases t with
    | «at» x => exact atom h.1 h.2
    | sq kd ts => exact h.elim
  | succ m ih =>
    intro v t h
    cases t with
    | «at» x => exact atom h.1 h.2
    | sq kd ts =>
      obtain ⟨a, xs, rfl, ha, _, hp⟩ := h
      have go : ∀ {xs : List V} {ts : List DT}, Paired (DtAt H m) xs ts → DpAll K H xs (dtDs ts) := by
        intro xs ts h
        induction h with
        | nil => rw [dtDs]; exact .nil
        | cons r _ ih2 => rw [dtDs]; exact .cons (ih _ _ r) ih2
      cases kd with
      | true => rw [dtD]; exact .lst (SqL.of ha) (go hp)
      | false => rw [dtD]; exact .tup (SqT.of ha) (go hp)
theorem lay_dt {H : Hp} : ∀ (m : Nat) (v : V) (t : DT), DtAt H m v t → dtOk t = true → (dtD t).canLay0 = true ∧ (dtD t).depth ≤ m := by
  have atom : ∀ {x : V} {m : Nat}, isAtom x = true → dtOk (.at x) = true → (dtD (.at x)).canLay0 = true ∧ (dtD (.at x)).depth ≤ m := by
    intro x m h hk
    rw [dtD]
    cases x with
    | str z =>
      rw [dtOk] at hk
      exact ⟨by show PyData.canLay0 (.str z) = true; rw [PyData.canLay0]; exact hk, by show PyData.depth (.str z) ≤ m; rw [PyData.depth]; exact Nat.zero_le _⟩
    | non => exact ⟨by show PyData.canLay0 .none = true; rw [PyData.canLay0], by show PyData.depth .none ≤ m; rw [PyData.depth]; exact Nat.zero_le _⟩
    | bl b => exact ⟨by show PyData.canLay0 (.bool b) = true; rw [PyData.canLay0], by show PyData.depth (.bool b) ≤ m; rw [PyData.depth]; exact Nat.zero_le _⟩
    | int i => exact ⟨by show PyData.canLay0 (.int i) = true; rw [PyData.canLay0], by show PyData.depth (.int i) ≤ m; rw [PyData.depth]; exact Nat.zero_le _⟩
    | _ => cases h
  intro m
  induction m with
  | zero =>
    intro v t h hk
    cases t with
    | «at» x => exact atom h.2 hk
    | sq kd ts => exact h.elim
  | succ m ih =>
    intro v t h hk
    cases t with
    | «at» x => exact atom h.2 hk
    | sq kd ts =>
      obtain ⟨a, xs, rfl, ha, _, hp⟩ := h
      rw [dtOk] at hk
      have go : ∀ {xs : List V} {ts : List DT}, Paired (DtAt H m) xs ts → dtOks ts = true → PyData.canLayAll0 (dtDs ts) = true ∧ PyData.depthAll (dtDs ts) ≤ m := by
        intro xs ts h
        induction h with
        | nil => intro _; rw [dtDs]; exact ⟨by rw [PyData.canLayAll0], by rw [PyData.depthAll]; exact Nat.zero_le _⟩
        | cons r _ ih2 =>
          intro hk
          rw [dtOks, Bool.and_eq_true] at hk
          obtain ⟨i1, i2⟩ := ih _ _ r hk.1
          obtain ⟨i3, i4⟩ := ih2 hk.2
          rw [dtDs]
          exact ⟨by rw [PyData.canLayAll0, i1, i3]; rfl, by rw [PyData.depthAll]; exact Nat.max_le.mpr ⟨i2, i4⟩⟩
      obtain ⟨g1, g2⟩ := go hp hk
      cases kd with
      | true => rw [dtD]; exact ⟨by rw [PyData.canLay0]; exact g1, by rw [PyData.depth]; omega⟩
      | false => rw [dtD]; exact ⟨by rw [PyData.canLay0]; exact g1, by rw [PyData.depth]; omega⟩
theorem shaped_dt {H : Hp} {m : Nat} {v : V} {t : DT} (h : DtAt H m v t) (hk : dtOk t = true) (hm : m ≤ 64) : SeqAt.shaped (dtD t) = true := by
  obtain ⟨h1, h2⟩ := lay_dt m v t h hk
  unfold SeqAt.shaped
  rw [h1, Bool.true_and]
  exact decide_eq_true (Nat.le_trans h2 hm)
mutual
theorem eqv_dt : ∀ t : DT, PyData.eqv (dtD t) (dtD t) = true
  | .at v => by
    rw [dtD]
    cases v <;> simp [aD, PyData.eqv]
  | .sq true ts => by rw [dtD, PyData.eqv]; exact eqv_dts ts
  | .sq false ts => by rw [dtD, PyData.eqv]; exact eqv_dts ts
theorem eqv_dts : ∀ ts : List DT, PyData.eqvAll (dtDs ts) (dtDs ts) = true
  | [] => by rw [dtDs, PyData.eqvAll]
  | t :: ts => by rw [dtDs, PyData.eqvAll, eqv_dt t, eqv_dts ts]; rfl
end
end Ft
set_option Elab.async false
set_option linter.all false
set_option maxRecDepth 100000
set_option maxHeartbeats 4000000
namespace Ft
open PySem L2
theorem atom_bilt {x : V} (h : isAtom x = true) (hb : isIntB x = false) : kitAnyB (atomT x) ["bool", "int", "list", "tuple"] = some false := by
  cases x with
  | non => decide +kernel
  | str z => show kitAnyB "str" ["bool", "int", "list", "tuple"] = some false; decide +kernel
  | bl b => cases hb
  | int i => cases hb
  | _ => cases h
section
variable {P : Program} {w : World} {K : PySem.W.Frag} {mg : Str → Option Value} {base : Heap}
abbrev sLSame : Stmt := topS 41
theorem scLSame : FnScope ["_law_found", "_law_due", "_law_one", "_law_two"] ["_law_found", "_law_due"] (defScope sLSame) := ⟨rfl, rfl, rfl, by decide +kernel, rfl, by decide +kernel, by decide +kernel⟩
end
end Ft
set_option Elab.async false
set_option linter.all false
set_option maxRecDepth 100000
set_option maxHeartbeats 4000000
set_option Elab.async false
set_option linter.all false
set_option maxRecDepth 100000
set_option maxHeartbeats 4000000
namespace Ft
open PySem L2
theorem cut1 (x : V) (rest : List V) : cutV (x :: rest) (some 1) none = rest := by
  unfold cutV
  rw [show HT.sIx (x :: rest).length 0 (some 1) = min 1 (x :: rest).length from HT.sIx_nat _ 0 1, HT.sIx_none]
  rw [show min 1 (x :: rest).length = 1 by rw [List.length_cons]; omega]
  show List.take (rest.length + 1 - 1) rest = rest
  rw [Nat.add_sub_cancel, List.take_length]
theorem not_whole1 (x : V) (rest : List V) : ¬ (HT.sIx (x :: rest).length 0 (some 1) = 0 ∧ HT.sIx (x :: rest).length (x :: rest).length none = (x :: rest).length) := fun ⟨e, _⟩ => by
  rw [show HT.sIx (x :: rest).length 0 (some 1) = min 1 (x :: rest).length from HT.sIx_nat _ 0 1, List.length_cons] at e
  omega
/-- x[1:] of a list or a tuple with a head -/
theorem rSl1 {kd : Bool} {K : PySem.W.Frag} {H : Hp} {a : Addr} {x : V} {rest : List V} {Q : VK} (h : H a = some (mkO kd (x :: rest))) (q : ∀ p H', Same H H' → H p = none → H' p = some (mkO kd rest) → Q (.ref p) H') :
    rSlL K (.ref a) (some 1) none H Q ∨ rSlT K (.ref a) (some 1) none H Q := by
  cases kd with
  | true => exact .inl ⟨a, _, rfl, SqL.of h, fun p np => q p _ (Same.new np) np (by rw [upd_same, cut1]; rfl)⟩
  | false => exact .inr ⟨a, _, rfl, SqT.of h, not_whole1 x rest, fun p np => q p _ (Same.new np) np (by rw [upd_same, cut1]; rfl)⟩
def blkOf (f : Str × Fl) : Option (List Row) := match f.2 with
  | .blk b => some b
  | .at _ => none
section
variable {P : Program} {w : World} {K : PySem.W.Frag} {mg : Str → Option Value} {base : Heap}
abbrev sBlocksOf : Stmt := topS 22
theorem scBlocksOf : FnScope ["row", "field", "part"] ["row"] (defScope sBlocksOf) := ⟨rfl, rfl, rfl, by decide +kernel, rfl, by decide +kernel, by decide +kernel⟩
def BlkAt (ok : Addr → Prop) (kk : Bool → Bool → Prop) (H : Hp) (d : Nat) (x : V) (b : List Row) : Prop := ∃ e, d = e + 1 ∧ RowsAt ok kk H e x b
def spBlocksOf : Sp := fun vs H Q _ => ∃ (v : V) (ok : Addr → Prop) (kk : Bool → Bool → Prop) (d : Nat) (wi : Bool) (r : Row), vs = [v] ∧ RowOk d wi r ∧ RowAt ok kk H d v r ∧
  ∀ H' p ys, Same H H' → H p = none → H' p = some (.lst ys) → Paired (BlkAt ok kk H d) ys (blocks r) → Q (.ref p) H'
theorem ok_BlocksOf {f dF : Addr} {fd : FuncData} {k : Nat} (F : Fun K "blocks_of" "blocks_of" sBlocksOf f fd) (B : Bl mg) (TF : FldT K w mg dF) : FnOk P w K mg base CX0 (k + 1) f fd ["row"] spBlocksOf := by
  obtain ⟨es, nn, D⟩ := TF.dict
  refine F.ok scBlocksOf (fun vs H Q E h => ?_) (fun cdv A outer s H vs Q E hr h => ?_)
  · obtain ⟨v, ok, kk, d, wi, r, rfl, _⟩ := h
    rfl
  obtain ⟨v, ok, kk, d, wi, r, rfl, hok, hat, q⟩ := h
  refine ⟨_, (pss_one (ps_ret (pe_lc (own := [("field", 1), ("part", 2)]) (g := (gTup _ 2 (gCons (gName 1) (gCons (gName 2) gNil)))) (by rfl) scBlocksOf.nd (pi_zipQ (by rfl) B.zip (pa_cons (pe_ix ix_kdict (pe_glob (v := .ref dF) (by rfl) TF.g rfl) (pe_ix ix_seq (pv 0) pe_int (fun _ _ => rfl)) (fun _ _ => rfl)) (pa_cons (pe_slice sl_seq (pv 0) (po_some pe_int) po_none) pa_nil))) (blkOk_by (own := [("field", 1), ("part", 2)]) (N := ["row", "field", "part"]) (sc := defScope sBlocksOf) (by decide +kernel)) (fun _ _ _ _ _ => (pg_tup (by rfl) (pgs_cons (pg_name (i := 1) scBlocksOf.nd rfl (by first | exact Or.inl rfl | exact Or.inr rfl)) (pgs_cons (pg_name (i := 2) scBlocksOf.nd rfl (by first | exact Or.inl rfl | exact Or.inr rfl)) pgs_nil)))) (fun _ _ _ _ _ => (pts_one (pt_cmpR op_eq (pv 1) pe_str (nomark _)))) (fun _ _ _ _ _ => (pv 2))))), ?_⟩
  have rf := rowF_of hok
  obtain ⟨rest, ⟨a, kd, rfl, oka, kka, ha⟩, hrest⟩ := rowV_of hok hat
  have hfs := fieldsOf_some rf.names
  obtain ⟨tA, hn, htA⟩ := TF.val _ hfs
  have ix : ∀ {Q' : VK}, Q' (.str (rowWord r)) H → rIx K (.ref a) (.int 0) H Q' := fun h => rIx_seq (sq_of ha) (atI_nat (j := 0) rfl) h
  refine ⟨_, rfl, ix ⟨dF, rowWord r, .ref tA, rfl, rfl, ⟨es, nn, .ref tA, D.at_, D.lit, hn, rfl⟩, ?_⟩⟩
  refine ⟨_, rfl, 1, rfl, rSl1 ha fun p G sm np hp => ?_⟩
  have lr : rest.length = (flds r).length := paired_len hrest
  have few := rf.few
  refine ⟨tA, p, false, kd, _, rest, rfl, htA G, sq_of hp, fun L nL => ?_⟩
  refine lc_it (walk_zipQ (n := (flds r).length) (by rw [List.length_map, List.length_map]; omega)) (fun i H' => Same G H' ∧ ∃ ys, H' L = some (.lst ys) ∧ Paired (BlkAt ok kk H d) ys (((flds r).take i).filterMap blkOf) ∧ ys.length ≤ i)
    ⟨Same.new nL, [], upd_same, .nil, Nat.le_refl _⟩ (fun i H' _ ⟨s4, _⟩ => ⟨htA H', sq_of (s4 _ _ hp)⟩) ?_ ?_
  · rintro i x H1 H2 hi ⟨s4, ys, hL, hys, hle⟩ ⟨T, x1, x2, rfl, nT, rfl, e1, e2⟩
    obtain ⟨ff, hff, hx2⟩ := paired_get hrest e2
    obtain rfl : x1 = .str ff.1 := by
      have e1' : (((flds r).map (·.1)).map V.str)[i]? = some x1 := e1
      rw [List.getElem?_map, List.getElem?_map, hff] at e1'
      exact (Option.some.inj e1').symm
    have fok := rf.ok ff (List.mem_of_getElem? hff)
    have s5 : Same G (upd H1 T (.tup [.str ff.1, x2])) := Same.trans s4 (Same.new nT)
    have nLT : L ≠ T := ne_of_none hL nT
    have hL2 : (upd H1 T (.tup [.str ff.1, x2])) L = some (.lst ys) := by rw [upd_ne nLT]; exact hL
    have et : (flds r).take (i + 1) = (flds r).take i ++ [ff] := by rw [List.take_add_one, hff]; rfl
    refine ⟨T, _, rfl, SqT.of upd_same, rfl, _, _, rfl, _, _, rfl, rfl, rfl, ?_⟩
    refine ⟨_, rfl, rfl, _, rfl, ite2 (fun c => ?_) (fun c => ?_)⟩
    · have ec : ff.1 = "block" := V.str.inj (of_decide_eq_true c)
      cases hfl : ff.2 with
      | «at» v =>
        rw [hfl] at fok
        rcases fok with ⟨h, _⟩ | ⟨h, _⟩
        · rw [ec] at h; exact absurd h (by decide)
        · rw [ec] at h; exact absurd h (by decide)
      | blk b =>
        rw [hfl] at hx2
        refine ⟨_, rfl, ys, hL2, small (by omega), Same.upN s5 nL, ys ++ [x2], upd_same, ?_, by simp; omega⟩
        rw [et, List.filterMap_append]
        have eb : List.filterMap blkOf [ff] = [b] := by
          rw [List.filterMap_cons, List.filterMap_nil]
          unfold blkOf
          rw [hfl]
        rw [eb]
        exact paired_app (show BlkAt ok kk H d x2 b from hx2) hys
    · have ec : ff.1 ≠ "block" := fun h => c (by rw [h]; exact decide_eq_true rfl)
      cases hfl : ff.2 with
      | blk b =>
        rw [hfl] at fok
        exact absurd fok.1 ec
      | «at» v =>
        refine ⟨s5, ys, hL2, ?_, by omega⟩
        rw [et, List.filterMap_append]
        have eb : List.filterMap blkOf [ff] = [] := by
          rw [List.filterMap_cons, List.filterMap_nil]
          unfold blkOf
          rw [hfl]
        rw [eb, List.append_nil]
        exact hys
  · rintro H1 ⟨s4, ys, hL, hys, hle⟩
    rw [List.take_length] at hys
    have eb : blocks r = (flds r).filterMap blkOf := rf.blk
    rw [← eb] at hys
    exact q _ L ys (Same.trans sm s4) (Same.free sm nL) hL hys
end
end Ft
set_option Elab.async false
set_option linter.all false
set_option maxRecDepth 100000
set_option maxHeartbeats 4000000
namespace Ft
open PySem L2
def isRef : V → Bool
  | .ref _ => true
  | _ => false
theorem isW_len {z : Str} (h : isW z = true) : z.length ≤ 8 := by
  unfold isW at h
  rw [Bool.and_eq_true, Bool.and_eq_true] at h
  exact of_decide_eq_true h.2.1
theorem atom_known {K : PySem.W.Frag} {H : Hp} {x : V} (h : isAtom x = true) (hz : ∀ z, x = .str z → z.length ≤ sizeLine) : KnownS K H isRef x := by
  refine ⟨?_, atomT x, atom_ty h, ?_⟩
  · cases x with
    | non => exact .inr (.inl rfl)
    | bl b => exact .inr (.inr (.inl ⟨b, rfl⟩))
    | int i => exact .inr (.inr (.inr (.inl ⟨i, rfl⟩)))
    | str z => exact .inl ⟨z, rfl, hz z rfl⟩
    | _ => cases h
  · rw [atom_lt h]
    cases x <;> first | rfl | cases h
theorem seq_known {K : PySem.W.Frag} {H : Hp} {ok : Addr → Prop} {kk : Bool → Prop} {v : V} {xs : List V} (h : At ok kk H v xs) : KnownS K H isRef v := by
  obtain ⟨a, kd, rfl, _, _, h⟩ := h
  refine ⟨.inr (.inr (.inr (.inr ⟨a, seqT kd, rfl, seq_ty h, by cases kd <;> decide⟩))), seqT kd, seq_ty h, seq_lt kd⟩
/-- a right row is taken -/
theorem row_taken {K : PySem.W.Frag} {H : Hp} {ok : Addr → Prop} {kk : Bool → Bool → Prop} {d : Nat} {wi : Bool} {r : Row} {rest : List V} (hok : RowOk d wi r) (hrest : Paired (fun x (f : Str × Fl) => FlAt ok kk H d x f.2) rest (flds r)) :
    (∀ x ∈ (.str (rowWord r) :: rest : List V), KnownS K H isRef x) ∧ rowB isRef wi (.str (rowWord r) :: rest) = true := by
  have rf := rowF_of hok
  have each : ∀ (i : Nat) (x : V), rest[i]? = some x → ∃ f : Str × Fl, (flds r)[i]? = some f ∧ KnownS K H isRef x ∧ fieldB isRef f.1 x = true := by
    intro i x hx
    obtain ⟨f, hf, hat⟩ := paired_get hrest hx
    have fok := rf.ok f (List.mem_of_getElem? hf)
    refine ⟨f, hf, ?_⟩
    obtain ⟨name, fl⟩ := f
    cases fl with
    | «at» v =>
      have e : x = v := hat
      subst e
      rcases fok with ⟨h1, h2⟩ | ⟨h1, i, h2, _⟩
      · have h1' : name = "word" := h1
        subst h1'
        cases x with
        | str z => exact ⟨atom_known rfl fun y e => by rw [← V.str.inj e]; exact smallE (by have := isW_len h2; omega), h2⟩
        | _ => cases h2
      · have h1' : name = "number" := h1
        subst h1'
        subst h2
        exact ⟨atom_known rfl fun y e => (nomatch e), by
          show (if ("number" : Str) = "word" then wordV (.int i) else if ("number" : Str) = "number" then intV (.int i) else isRef (.int i)) = true
          rw [if_neg (by decide), if_pos rfl]; rfl⟩
    | blk b =>
      have h1 : name = "block" := fok.1
      subst h1
      obtain ⟨e, _, ys, h2, _⟩ := hat
      refine ⟨seq_known h2, ?_⟩
      obtain ⟨a, kd, rfl, _⟩ := h2
      rfl
  refine ⟨fun x hx => ?_, ?_⟩
  · rcases List.mem_cons.mp hx with e | hx
    · rw [e]
      refine atom_known rfl fun y e => ?_
      rw [← V.str.inj e]
      have hfs := fieldsOf_some rf.names
      have : ∀ p ∈ fieldsT, p.1.length ≤ 8 := by decide +kernel
      exact smallE (by have := this _ hfs; have e2 : (rowWord r, (flds r).map (·.1)).1 = rowWord r := rfl; rw [e2] at this; omega)
    · obtain ⟨i, hi, e⟩ := List.mem_iff_getElem.mp hx
      obtain ⟨f, _, h, _⟩ := each i x (by rw [List.getElem?_eq_getElem hi, e])
      exact h
  · rw [rowB_str, rf.names]
    show (!(wi && (decide (rowWord r = "make") || decide (rowWord r = "call"))) && (decide (rest.length = ((flds r).map (·.1)).length) && _)) = true
    rw [rf.word, List.length_map, decide_eq_true (paired_len hrest)]
    rw [Bool.not_false, Bool.true_and, Bool.true_and, List.all_eq_true]
    intro p hp
    obtain ⟨i, hi, e⟩ := List.mem_iff_getElem.mp hp
    have ep : (((flds r).map (·.1)).zip rest)[i]? = some p := by rw [List.getElem?_eq_getElem hi, e]
    obtain ⟨e1, e2⟩ := List.getElem?_zip_eq_some.mp ep
    obtain ⟨f, hf, _, h⟩ := each i p.2 e2
    rw [List.getElem?_map, hf] at e1
    have e3 : f.1 = p.1 := Option.some.inj e1
    rw [← e3]
    exact h
section
variable {P : Program} {w : World} {K : PySem.W.Frag} {mg : Str → Option Value} {base : Heap}
abbrev sFirstWrong : Stmt := topS 23
theorem scFirstWrong : FnScope ["rows", "path", "is_within", "k", "row", "here", "b", "block", "found"] ["rows", "path", "is_within"] (defScope sFirstWrong) := ⟨rfl, rfl, rfl, by decide +kernel, rfl, by decide +kernel, by decide +kernel⟩
def PathAt (H : Hp) (v : V) (p : List Int) : Prop := ∃ a, v = .ref a ∧ H a = some (.tup (p.map V.int))
def spFirstWrong (d : Nat) : Sp := fun vs H Q _ => ∃ (v pv : V) (ok : Addr → Prop) (kk : Bool → Bool → Prop) (wi : Bool) (rs : List Row) (p : List Int), vs = [v, pv, .bl wi] ∧ RowsAt ok kk H d v rs ∧ rs.length ≤ 24 ∧ (∀ r ∈ rs, RowOk d wi r) ∧ PathAt H pv p ∧ p.length + 2 * d ≤ 100 ∧
  ∀ H', Same H H' → Q .non H'
theorem ok_FirstWrong {f : Addr} {fd : FuncData} {k d : Nat} {spF : Sp} (F : Fun K "first_wrong" "first_wrong" sFirstWrong f fd) (B : Bl mg) (hk : 4 ≤ k) (gIsRow : Own P w K mg base 4 "is_row" ["thing", "is_within"] (spIsRow K)) (gBlocksOf : Own P w K mg base 1 "blocks_of" ["row"] spBlocksOf)
    (gFirstWrong : Own P w K mg base k "first_wrong" ["rows", "path", "is_within"] spF) (hF : ∀ e, d = e + 1 → spF = spFirstWrong e) : FnOk P w K mg base CX0 (k + 1) f fd ["rows", "path", "is_within"] (spFirstWrong d) := by
  refine F.ok scFirstWrong (fun vs H Q E h => ?_) (fun cdv A outer s H vs Q E hr h => ?_)
  · obtain ⟨v, pv, ok, kk, wi, rs, p, rfl, _⟩ := h
    rfl
  obtain ⟨v, pv, ok, kk, wi, rs, p, rfl, ⟨xs, ⟨a, kd, rfl, oka, kka, ha⟩, hxs⟩, hlen, hok, ⟨pa, rfl, hpa⟩, hpl, q⟩ := h
  refine ⟨_, (pss_cons (ps_for PassesOwn.never rfl (pi_enumQ (by rfl) B.enumerate (pa_cons (pv 0) pa_nil)) (pg_tup (by rfl) (pgs_cons (pg_name (i := 3) scFirstWrong.nd rfl (by first | exact Or.inl rfl | exact Or.inr rfl)) (pgs_cons (pg_name (i := 4) scFirstWrong.nd rfl (by first | exact Or.inl rfl | exact Or.inr rfl)) pgs_nil))) (pss_cons (ps_set (i := 5) scFirstWrong.nd rfl (by first | exact Or.inl rfl | exact Or.inr rfl) (pe_mid (pe_op op_catA (pv 1) (pe_tup (pa_cons (pv 3) pa_nil)))))
      (pss_cons (ps_if (pt_not (pt_val (pe_own gIsRow (hr.mono (by omega)) (by rfl) (pa_cons (pv 4) (pa_cons (pv 2) pa_nil))))) (pss_one (ps_ret (pv 5))) pss_nil)
      (pss_one (ps_for PassesOwn.never rfl (pi_enumQ (by rfl) B.enumerate (pa_cons (pe_own gBlocksOf (hr.mono (by omega)) (by rfl) (pa_cons (pv 4) pa_nil)) pa_nil)) (pg_tup (by rfl) (pgs_cons (pg_name (i := 6) scFirstWrong.nd rfl (by first | exact Or.inl rfl | exact Or.inr rfl)) (pgs_cons (pg_name (i := 7) scFirstWrong.nd rfl (by first | exact Or.inl rfl | exact Or.inr rfl)) pgs_nil))) (pss_cons (ps_set (i := 8) scFirstWrong.nd rfl (by first | exact Or.inl rfl | exact Or.inr rfl) (pe_own gFirstWrong (hr.mono (by omega)) (by rfl) (pa_cons (pv 7) (pa_cons (pe_mid (pe_op op_catA (pv 5) (pe_tup (pa_cons (pv 6) pa_nil)))) (pa_cons (pe_mid (pe_or (pv 2) (pe_one (pe_cmpR op_eq (pe_ix ix_seq (pv 4) pe_int (fun _ _ => rfl)) pe_str (nomark _))))) pa_nil)))))
      (pss_one (ps_if (pt_cmpR op_notN (pv 8) pe_non (nomark _)) (pss_one (ps_ret (pv 8))) pss_nil))))))))
      (pss_one (ps_ret pe_non))), ?_⟩
  refine ⟨_, rfl, a, kd, xs, rfl, sq_of ha, ?_⟩
  refine for_it walk_enumQ (fun i σ H' => Same H H' ∧ ∃ v3 v4 v5 v6 v7 v8, σ = [some (.ref a), some (.ref pa), some (.bl wi), v3, v4, v5, v6, v7, v8])
    ⟨Same.refl H, none, none, none, none, none, none, rfl⟩ (fun i σ H' _ ⟨sm, _⟩ => sq_of (sm _ _ ha)) ?_ ?_
  · rintro i x σ H1 H2 hi ⟨sm, v3, v4, v5, v6, v7, v8, rfl⟩ ⟨T, x1, x2, rfl, nT, rfl, e1, e2⟩
    have e1' : x1 = .int (i : Nat) := (Option.some.inj e1).symm
    subst e1'
    obtain ⟨r, hr', hrow⟩ := paired_get hxs e2
    have rok := hok r (List.mem_of_getElem? hr')
    have s2 : Same H (upd H1 T (.tup [.int (i : Nat), x2])) := Same.trans sm (Same.new nT)
    refine ⟨T, _, rfl, SqT.of upd_same, rfl, _, _, rfl, _, _, rfl, rfl, ?_⟩
    generalize hG : upd H1 T _ = G at *
    -- here = path + (k,)
    refine ⟨fun v H' => ∃ b, v = .ref b ∧ H' b = some (.tup ((p ++ [(i : Int)]).map V.int)) ∧ Same G H', ?_, ?_⟩
    · refine ⟨_, rfl, _, rfl, (by show 1 ≤ sizeLine; decide), fun t1 nt1 => ?_⟩
      refine ⟨pa, t1, p.map V.int, [.int (i : Nat)], rfl, rfl, SqT.of (Same.new nt1 _ _ (s2 _ _ hpa)), SqT.of upd_same, smallE (by rw [List.length_map]; simp; omega), fun e => ?_, fun _ e => (nomatch e), fun _ _ t2 nt2 => ?_⟩
      · have ep : p = [] := List.map_eq_nil_iff.mp e
        subst ep
        exact ⟨t1, rfl, upd_same, Same.new nt1⟩
      · exact ⟨t2, rfl, by rw [upd_same, List.map_append]; rfl, Same.trans (Same.new nt1) (Same.new nt2)⟩
    rintro hv G1 ⟨hb, rfl, hhb, s3⟩
    have s4 : Same H G1 := Same.trans s2 s3
    have hrow1 : RowAt ok kk G1 d x2 r := hrow.to (Keep.fr (Fr.same s4) fun _ k => k)
    obtain ⟨rest, ⟨ra, rkd, rfl, roka, rkka, hra⟩, hrest⟩ := rowV_of rok hrow1
    have rf := rowF_of rok
    have few := rf.few
    have lr : rest.length = (flds r).length := paired_len hrest
    obtain ⟨hkn, hrb⟩ := row_taken (K := K) rok hrest
    refine ⟨_, rfl, _, rfl, .ref ra, wi, rfl, .inr ⟨ra, rkd, _, isRef, rfl, hra, by simp; omega, hkn, fun G2 s5 => ?_⟩⟩
    rw [hrb]
    refine ⟨true, rfl, iteF ?_⟩
    have s6 : Same H G2 := Same.trans s4 s5
    have hrow2 : RowAt ok kk G2 d (.ref ra) r := hrow1.to (Keep.fr (Fr.same s5) fun _ k => k)
    refine ⟨_, rfl, .ref ra, ok, kk, d, wi, r, rfl, rok, hrow2, fun G3 bl ys s7 nb hbl hys => ?_⟩
    have lb : ys.length ≤ 3 := by
      rw [paired_len hys, rf.blk]
      exact Nat.le_trans (List.length_filterMap_le _ _) few
    refine ⟨bl, true, ys, rfl, sq_of hbl, ?_⟩
    refine for_it walk_enumQ (fun j σ H' => Same G3 H' ∧ ∃ v6 v7 v8, σ = [some (.ref a), some (.ref pa), some (.bl wi), some (.int (i : Nat)), some (.ref ra), some (.ref hb), v6, v7, v8])
      ⟨Same.refl _, v6, v7, v8, rfl⟩ (fun j σ H' _ ⟨sm, _⟩ => sq_of (kd := true) (sm _ _ hbl)) ?_ ?_
    · rintro j y σ H3 H4 hj ⟨sm4, w6, w7, w8, rfl⟩ ⟨T2, y1, y2, rfl, nT2, rfl, f1, f2⟩
      have f1' : y1 = .int (j : Nat) := (Option.some.inj f1).symm
      subst f1'
      obtain ⟨b, hb', hblk⟩ := paired_get hys f2
      obtain ⟨e, rfl, hrows⟩ := hblk
      have eF := hF e rfl
      subst eF
      have s8 : Same G3 (upd H3 T2 (.tup [.int (j : Nat), y2])) := Same.trans sm4 (Same.new nT2)
      refine ⟨T2, _, rfl, SqT.of upd_same, rfl, _, _, rfl, _, _, rfl, rfl, ?_⟩
      generalize hG4 : upd H3 T2 _ = G4 at *
      have s9 : Same G1 G4 := Same.trans s5 (Same.trans s7 s8)
      have hhb4 : G4 hb = some (.tup ((p ++ [(i : Int)]).map V.int)) := s9 _ _ hhb
      have bok : b.length ≤ 24 ∧ ∀ r' ∈ b, RowOk e (wi || decide (rowWord r = "make")) r' := by
        have hm : b ∈ blocks r := List.mem_of_getElem? hb'
        rw [rf.blk] at hm
        obtain ⟨ff, hff, eff⟩ := List.mem_filterMap.mp hm
        have fok := rf.ok ff hff
        cases hfl : ff.2 with
        | «at» v => rw [hfl] at eff; cases eff
        | blk b2 =>
          rw [hfl] at eff fok
          have e2 : b2 = b := Option.some.inj eff
          subst e2
          obtain ⟨_, e', he', h8, hr8⟩ := fok
          have : e = e' := Nat.succ.inj he'
          subst this
          exact ⟨h8, hr8⟩
      refine ⟨_, rfl, fun v H' => ∃ c, v = .ref c ∧ H' c = some (.tup ((p ++ [(i : Int)] ++ [(j : Int)]).map V.int)) ∧ Same G4 H', ?_, ?_⟩
      · refine ⟨_, rfl, _, rfl, (by show 1 ≤ sizeLine; decide), fun t1 nt1 => ?_⟩
        refine ⟨hb, t1, _, [.int (j : Nat)], rfl, rfl, SqT.of (Same.new nt1 _ _ hhb4), SqT.of upd_same, smallE (by rw [List.length_map]; simp; omega), fun e => (by simp at e), fun _ e => (nomatch e), fun _ _ t2 nt2 => ?_⟩
        exact ⟨t2, rfl, by rw [upd_same, List.map_append (l₁ := p ++ [(i : Int)])]; rfl, Same.trans (Same.new nt1) (Same.new nt2)⟩
      rintro cv G5 ⟨c, rfl, hc, s10⟩
      have s11 : Same G2 G5 := Same.trans s7 (Same.trans s8 s10)
      refine ⟨fun v H' => v = .bl (wi || decide (rowWord r = "make")) ∧ G5 = H', ?_, ?_⟩
      · refine ⟨_, rfl, wi, rfl, ?_⟩
        cases wi with
        | true => exact iteT ⟨rfl, rfl⟩
        | false =>
          have hra5 := Same.trans s5 s11 _ _ hra
          refine iteF ⟨_, rfl, rIx_seq (sq_of hra5) (atI_nat (j := 0) rfl) ⟨rfl, ?_, rfl⟩⟩
          rw [Bool.false_or]
          have : (V.str (rowWord r) = V.str "make") ↔ (rowWord r = "make") := ⟨fun e => V.str.inj e, fun e => by rw [e]⟩
          rw [decide_eq_decide.mpr this]
      rintro _ _ ⟨rfl, rfl⟩
      have hrows5 : RowsAt ok kk G5 e y2 b := hrows.to (Keep.fr (Fr.same s11) fun _ k => k)
      refine ⟨y2, .ref c, ok, kk, _, b, p ++ [(i : Int)] ++ [(j : Int)], rfl, hrows5, by have := bok.1; omega, bok.2, ⟨c, rfl, hc⟩, by simp; omega, fun G6 s12 => ?_⟩
      refine ⟨_, rfl, rfl, _, rfl, iteF ⟨Same.trans s8 (Same.trans s10 s12), _, _, _, rfl⟩⟩
    · rintro σ H3 ⟨sm4, w6, w7, w8, rfl⟩
      exact ⟨Same.trans s6 (Same.trans s7 sm4), _, _, _, _, _, _, rfl⟩
  · rintro σ H1 ⟨sm, v3, v4, v5, v6, v7, v8, rfl⟩
    exact q _ sm
theorem firstWrong_ok {f : Addr} {fd : FuncData} (F : Fun K "first_wrong" "first_wrong" sFirstWrong f fd) (B : Bl mg) (m : mg "first_wrong" = some (.ref f)) (b : Binds K fd ["rows", "path", "is_within"] []) (gIsRow : Own P w K mg base 4 "is_row" ["thing", "is_within"] (spIsRow K)) (gBlocksOf : Own P w K mg base 1 "blocks_of" ["row"] spBlocksOf) :
    ∀ d : Nat, Own P w K mg base (5 + d) "first_wrong" ["rows", "path", "is_within"] (spFirstWrong d)
  | 0 => own_mk F m b (ok_FirstWrong (k := 4) F B (by omega) gIsRow gBlocksOf (own_mk F m b fn_false) (fun e h => absurd h (by omega)))
  | d + 1 => own_mk F m b (ok_FirstWrong (k := 5 + d) F B (by omega) gIsRow gBlocksOf (firstWrong_ok F B m b gIsRow gBlocksOf d) (fun e h => by
      have : d = e := by omega
      rw [this]))
end
end Ft
set_option Elab.async false
set_option linter.all false
set_option maxRecDepth 100000
set_option maxHeartbeats 4000000
namespace Ft
open PySem L2
/-- a right library -/
structure LibR (lib : Lib) : Prop where
  few : lib.length ≤ 4
  pos : 0 < lib.length
  nd : (lib.map (·.1)).Nodup
  word : ∀ m ∈ lib, isW m.1 = true
  len : ∀ m ∈ lib, m.2.length ≤ 24
  rows : ∀ m ∈ lib, ∀ r ∈ m.2, RowOk 3 false r
section
variable {P : Program} {w : World} {K : PySem.W.Frag} {mg : Str → Option Value} {base : Heap}
abbrev sCheckModules : Stmt := topS 24
theorem scCheckModules : FnScope ["modules", "word", "path"] ["modules"] (defScope sCheckModules) := ⟨rfl, rfl, rfl, by decide +kernel, rfl, by decide +kernel, by decide +kernel⟩
def spCheckModules : Sp := fun vs H Q _ => ∃ (dm : Addr) (kvs : List (Key × V)) (lib : Lib) (ok : Addr → Prop) (kk : Bool → Bool → Prop), vs = [.ref dm] ∧ H dm = some (.dK kvs) ∧ LibAt ok kk H kvs lib ∧ LibR lib ∧ ∀ H', Same H H' → Q .non H'
theorem ok_CheckModules {f : Addr} {fd : FuncData} {k : Nat} (F : Fun K "check_modules" "check_modules" sCheckModules f fd) (B : Bl mg) (hk : 8 ≤ k) (gIsWord : Own P w K mg base 1 "is_word" ["thing"] (spIsWord K)) (gFirstWrong : Own P w K mg base 8 "first_wrong" ["rows", "path", "is_within"] (spFirstWrong 3)) : FnOk P w K mg base CX0 (k + 1) f fd ["modules"] spCheckModules := by
  refine F.ok scCheckModules (fun vs H Q E h => ?_) (fun cdv A outer s H vs Q E hr h => ?_)
  · obtain ⟨dm, kvs, lib, ok, kk, rfl, _⟩ := h
    rfl
  obtain ⟨dm, kvs, lib, ok, kk, rfl, hdm, hlib, lr, q⟩ := h
  refine ⟨_, (pss_cons (ps_if (PW.pt (pw_or (pt_not (pt_val (pe_callB call_isi (by rfl) B.isinstance (by decide +kernel) (pa_cons (pv 0) (pa_cons (pe_bltn (v := .ty "dict") (by rfl) B.dict (by decide +kernel) rfl) pa_nil))))) (pw_or (pt_cmpR op_eq (pe_callB call_lenD (by rfl) B.len (by decide +kernel) (pa_cons (pv 0) pa_nil)) pe_int (nomark _)) (pw_or1 (pt_not (pt_val (pe_callB (cr_all rfl) (by rfl) B.all (by decide +kernel) (pa_cons (pe_lock (pe_lc (own := [("word", 1)]) (g := (gName 1)) (tt := tYes) (by rfl) scCheckModules.nd (pi_keys (pv 0)) (blkOk_by (own := [("word", 1)]) (N := ["modules", "word", "path"]) (sc := defScope sCheckModules) (by decide +kernel)) (fun _ _ _ _ _ => (pg_name (i := 1) scCheckModules.nd rfl (by first | exact Or.inl rfl | exact Or.inr rfl))) (fun _ _ _ _ _ => pts_nil) (fun _ _ _ _ _ => (pe_own gIsWord (hr.mono (by omega)) (by rfl) (pa_cons (pv 1) pa_nil))))) pa_nil)))))))) (pss_one ps_never) pss_nil)
      (pss_one (ps_for PassesOwn.never rfl (pi_list (pe_callB (call_sortedD rfl) (by rfl) B.sorted (by decide +kernel) (pa_cons (pv 0) pa_nil))) (pg_name (i := 1) scCheckModules.nd rfl (by first | exact Or.inl rfl | exact Or.inr rfl)) (pss_cons (ps_if (pt_not (pt_val (pe_callB call_isiT (by rfl) B.isinstance (by decide +kernel) (pa_cons (pe_dget (hu_of hr) (pv 0) (pv 1) (fun _ _ => rfl)) (pa_cons (pe_tup (pa_cons (pe_bltn (v := .ty "list") (by rfl) B.list (by decide +kernel) rfl) (pa_cons (pe_bltn (v := .ty "tuple") (by rfl) B.tuple (by decide +kernel) rfl) pa_nil))) pa_nil))))) (pss_one ps_never) pss_nil)
      (pss_cons (ps_set (i := 2) scCheckModules.nd rfl (by first | exact Or.inl rfl | exact Or.inr rfl) (pe_own gFirstWrong (hr.mono (by omega)) (by rfl) (pa_cons (pe_dget (hu_of hr) (pv 0) (pv 1) (fun _ _ => rfl)) (pa_cons (pe_tup pa_nil) (pa_cons pe_bl pa_nil)))))
      (pss_one (ps_if (pt_cmpR op_notN (pv 2) pe_non (nomark _)) (pss_one ps_never) pss_nil))))))), ?_⟩
  have hkeys := libAt_keys hlib
  have hkl := libAt_len hlib
  have few := lr.few
  have keysW : ∀ z ∈ lib.map (·.1), isW z = true := fun z hz => by
    obtain ⟨m, hm, e⟩ := List.mem_map.mp hz
    rw [← e]; exact lr.word m hm
  refine ⟨_, rfl, _, _, _, _, _, rfl, .ty _, .base (.dK hdm), kit_ty (r := true) (by decide +kernel), true, rfl, iteF ?_⟩
  refine ⟨_, rfl, dm, kvs, rfl, hdm, rfl, _, rfl, ?_⟩
  have e0 : decide (V.int ((kvs.length : Nat) : Int) = V.int 0) = false := decide_eq_false (fun e => by
    have := V.int.inj e
    have := lr.pos
    omega)
  rw [e0]
  refine iteF ?_
  -- the keys
  refine ⟨dm, .dK kvs, hdm, trivial, fun od => ?_⟩
  refine ⟨_, rfl, dm, od, rfl, .inl ⟨kvs, upd_same, fun L nL => ?_⟩⟩
  have Ld : L ≠ dm := fun e => by rw [e, upd_same] at nL; cases nL
  refine lc_it walk_keys (fun i H' => Same (upd H dm (.frz od (.dK kvs))) H' ∧ H' L = some (.lst (List.replicate i (.bl true))))
    ⟨Same.new nL, upd_same⟩ (fun i H' _ ⟨sm, _⟩ => sm _ _ upd_same) ?_ ?_
  · rintro i x H1 H2 hi ⟨sm, hL⟩ ⟨rfl, kk', v', hkv, rfl⟩
    refine ⟨rfl, ?_⟩
    obtain ⟨z, hz, rfl⟩ : ∃ z, isW z = true ∧ kk' = Sum.inr z := by
      have : (kvs.map (·.1))[i]? = some kk' := by rw [List.getElem?_map, hkv]; rfl
      rw [hkeys, List.getElem?_map] at this
      obtain ⟨z, h1, h2⟩ := Option.map_eq_some_iff.mp this
      exact ⟨z, keysW z (List.mem_of_getElem? h1), h2.symm⟩
    have hzl := isW_len hz
    refine ⟨_, rfl, .str z, rfl, .inl ⟨z, rfl, smallE (by omega)⟩, fun H3 s3 => ?_⟩
    refine ⟨_, s3 _ _ hL, by rw [List.length_replicate]; exact small (by omega), Same.upN (Same.trans sm s3) nL, ?_⟩
    show (upd H3 L (.lst (List.replicate i (.bl true) ++ [.bl (isW z)]))) L = _
    rw [upd_same, hz, List.replicate_succ']
  · rintro H1 ⟨sm, hL⟩
    have hd1 : H1 dm = some (.frz od (.dK kvs)) := sm _ _ upd_same
    have sm1 : Same H (upd H1 dm (.dK kvs)) := fun b o e => by
      by_cases eb : b = dm
      · rw [eb, hdm] at e
        rw [eb, upd_same]; exact e
      · rw [upd_ne eb]
        exact sm _ _ (by rw [upd_ne eb]; exact e)
    refine ⟨hd1, L, List.replicate kvs.length true, rfl, SqL.of (by rw [upd_ne Ld, hL, List.map_replicate]), ?_⟩
    have ea : (List.replicate kvs.length true).all id = true := by
      rw [List.all_eq_true]
      intro b hb
      rw [List.eq_of_mem_replicate hb]; rfl
    rw [ea]
    refine ⟨true, rfl, iteF ?_⟩
    generalize hG : upd H1 dm _ = G at *
    have hdG : G dm = some (.dK kvs) := by rw [← hG]; exact upd_same
    -- sorted(modules)
    refine ⟨_, rfl, dm, kvs, lib.map (·.1), rfl, .inl hdG, hkeys, by rw [List.length_map]; omega, fun ys l0 hperm hsort nl0 => ?_⟩
    have s2 : Same G (upd G l0 (.lst (ys.map V.str))) := Same.new nl0
    refine ⟨l0, rfl, ⟨_, SqL.of upd_same⟩, ?_⟩
    refine for_it (walk_list (xs := ys.map V.str)) (fun i σ H' => Same (upd G l0 (.lst (ys.map V.str))) H' ∧ ∃ v1 v2, σ = [some (.ref dm), v1, v2])
      ⟨Same.refl _, _, _, rfl⟩ (fun i σ H' _ ⟨sm, _⟩ => SqL.of (sm _ _ upd_same)) ?_ ?_
    · rintro i x σ H2 H3 hi ⟨s3, v1, v2, rfl⟩ ⟨rfl, hx⟩
      obtain ⟨z, hz, rfl⟩ : ∃ z, z ∈ ys ∧ x = .str z := by
        rw [List.getElem?_map] at hx
        obtain ⟨z, h1, h2⟩ := Option.map_eq_some_iff.mp hx
        exact ⟨z, List.mem_of_getElem? h1, h2.symm⟩
      obtain ⟨⟨z', rs⟩, hm, e⟩ := List.mem_map.mp (hperm.mem_iff.mp hz)
      have e' : z' = z := e
      subst e'
      have s4 : Same H H3 := Same.trans sm1 (Same.trans s2 s3)
      have hlib3 : LibAt ok kk H3 kvs lib := hlib.to (Keep.fr (Fr.same s4) fun _ k => k)
      obtain ⟨v, hv, hrows⟩ := libAt_val hlib3 lr.nd hm
      have hd3 : H3 dm = some (.dK kvs) := s4 _ _ hdm
      have dg : DGet H3 dm (.str z') (some v) := by rw [← hv]; exact DGet.k (k := Sum.inr z') hd3
      obtain ⟨xs, hat, hall⟩ := id hrows
      have hat' := hat
      obtain ⟨a, kd, rfl, oka, kka, ha⟩ := hat'
      refine ⟨_, rfl, _, rfl, dm, .ref a, rfl, dg, (by show 2 ≤ sizeLine; decide), fun t0 nt => ?_⟩
      refine ⟨_, t0, _, _, _, _, rfl, upd_same, clsV_all ["list", "tuple"], seq_ty (Same.new nt _ _ ha), kitAny_of (seq_lt kd), true, rfl, iteF ?_⟩
      have s5 : Same H3 (upd H3 t0 (.tup [.ty "list", .ty "tuple"])) := Same.new nt
      generalize hG3 : upd H3 t0 _ = G3 at *
      have hd4 : G3 dm = some (.dK kvs) := s5 _ _ hd3
      have dg4 : DGet G3 dm (.str z') (some (.ref a)) := by rw [← hv]; exact DGet.k (k := Sum.inr z') hd4
      refine ⟨_, rfl, _, rfl, dm, .ref a, rfl, dg4, Nat.zero_le _, fun t1 nt1 => ?_⟩
      have s6 : Same H3 (upd G3 t1 (.tup [])) := Same.trans s5 (Same.new nt1)
      refine ⟨.ref a, .ref t1, ok, kk, false, rs, [], rfl, hrows.to (Keep.fr (Fr.same s6) fun _ k => k), lr.len _ hm, lr.rows _ hm, ⟨t1, rfl, upd_same⟩, by simp, fun G4 s7 => ?_⟩
      exact ⟨_, rfl, rfl, _, rfl, iteF ⟨Same.trans s3 (Same.trans s6 s7), _, _, rfl⟩⟩
    · rintro σ H2 ⟨s3, v1, v2, rfl⟩
      exact q _ (Same.trans sm1 (Same.trans s2 s3))
end
end Ft
set_option Elab.async false
set_option linter.all false
set_option maxRecDepth 100000
set_option maxHeartbeats 4000000
namespace Ft
open PySem L2
def tupK : Bool → Bool → Prop := fun _ b => b = false
theorem FlAt.to {ok ok' : Addr → Prop} {kk : Bool → Bool → Prop} {H H' : Hp} {d : Nat} {v : V} {f : Fl} (h : FlAt ok kk H d v f) (t : Keep ok ok' H H') : FlAt ok' kk H' d v f := by
  cases f with
  | «at» x => exact h
  | blk b =>
    obtain ⟨e, he, hr⟩ := h
    exact ⟨e, he, hr.to t⟩
section
variable {P : Program} {w : World} {K : PySem.W.Frag} {mg : Str → Option Value} {base : Heap}
abbrev sFrozen : Stmt := topS 25
theorem scFrozen : FnScope ["rows", "found", "row", "parts", "field", "part"] ["rows"] (defScope sFrozen) := ⟨rfl, rfl, rfl, by decide +kernel, rfl, by decide +kernel, by decide +kernel⟩
def spFrozen (d : Nat) : Sp := fun vs H Q _ => ∃ (v : V) (ok : Addr → Prop) (kk : Bool → Bool → Prop) (wi : Bool) (rs : List Row), vs = [v] ∧ RowsAt ok kk H d v rs ∧ rs.length ≤ 24 ∧ (∀ r ∈ rs, RowOk d wi r) ∧
  ∀ H' v', Same H H' → RowsAt (fun x => H x = none) tupK H' d v' rs → Q v' H'
theorem ok_Frozen {f dF : Addr} {fd : FuncData} {k d : Nat} {spF : Sp} (F : Fun K "frozen" "frozen" sFrozen f fd) (B : Bl mg) (TF : FldT K w mg dF)
    (gFrozen : Own P w K mg base k "frozen" ["rows"] spF) (hF : ∀ e, d = e + 1 → spF = spFrozen e) : FnOk P w K mg base CX0 (k + 1) f fd ["rows"] (spFrozen d) := by
  obtain ⟨es, nn, D⟩ := TF.dict
  refine F.ok scFrozen (fun vs H Q E h => ?_) (fun cdv A outer s H vs Q E hr h => ?_)
  · obtain ⟨v, ok, kk, wi, rs, rfl, _⟩ := h
    rfl
  obtain ⟨v, ok, kk, wi, rs, rfl, ⟨xs, ⟨a, kd, rfl, oka, kka, ha⟩, hxs⟩, hlen, hok, q⟩ := h
  refine ⟨_, (pss_cons (ps_set (i := 1) scFrozen.nd rfl (by first | exact Or.inl rfl | exact Or.inr rfl) (pe_lst pa_nil))
      (pss_cons (ps_for PassesOwn.never rfl (pi_seq (pv 0)) (pg_name (i := 2) scFrozen.nd rfl (by first | exact Or.inl rfl | exact Or.inr rfl)) (pss_cons (ps_setLc (i := 3) (own := [("field", 4), ("part", 5)]) (g := (gTup _ 2 (gCons (gName 4) (gCons (gName 5) gNil)))) (tt := tYes) (by rfl) scFrozen.nd rfl rfl (sw_true rfl rfl rfl (by decide +kernel)) (pi_zipQ (by rfl) B.zip (pa_cons (pe_ix ix_kdict (pe_glob (v := .ref dF) (by rfl) TF.g rfl) (pe_ix ix_seq (pv 2) pe_int (fun _ _ => rfl)) (fun _ _ => rfl)) (pa_cons (pe_slice sl_seq (pv 2) (po_some pe_int) po_none) pa_nil))) (blkOk_by (own := [("field", 4), ("part", 5)]) (N := ["rows", "found", "row", "parts", "field", "part"]) (sc := defScope sFrozen) (by decide +kernel)) (fun _ _ _ _ _ => (pg_tup (by rfl) (pgs_cons (pg_name (i := 4) scFrozen.nd rfl (by first | exact Or.inl rfl | exact Or.inr rfl)) (pgs_cons (pg_name (i := 5) scFrozen.nd rfl (by first | exact Or.inl rfl | exact Or.inr rfl)) pgs_nil)))) (fun _ _ _ _ _ => pts_nil) (fun _ _ _ _ _ => (pe_ifExp (pt_cmpR op_eq (pv 4) pe_str (nomark _)) (pe_own gFrozen (hr.mono (by omega)) (by rfl) (pa_cons (pv 5) pa_nil)) (pv 5))))
      (pss_one (ps_expr (pe_bm PySem.F.plainAttrs_list PySem.F.slot_list_append PySem.F.type_list_append mt_append (pv 1) (pa_cons (pe_op op_catA (pe_tup (pa_cons (pe_ix ix_seq (pv 2) pe_int (fun _ _ => rfl)) pa_nil)) (pe_callTy call_tuple_of (by rfl) B.tuple (by decide +kernel) (pa_cons (pv 3) pa_nil))) pa_nil))))))
      (pss_one (ps_ret (pe_callTy call_tuple_of (by rfl) B.tuple (by decide +kernel) (pa_cons (pv 1) pa_nil)))))), ?_⟩
  refine ⟨Nat.zero_le _, fun l nl => ?_⟩
  have s0 : Same H (upd H l (.lst [])) := Same.new nl
  refine ⟨_, rfl, a, kd, xs, rfl, sq_of (s0 _ _ ha), ?_⟩
  refine for_it walk_seq (fun i σ H' => Same H H' ∧ (∃ v2 v3 v4 v5, σ = [some (.ref a), some (.ref l), v2, v3, v4, v5]) ∧ ∃ zs, H' l = some (.lst zs) ∧ Paired (RowAt (fun x => H x = none ∧ x ≠ l) tupK H' d) zs (rs.take i))
    ⟨s0, ⟨none, none, none, none, rfl⟩, [], upd_same, .nil⟩ (fun i σ H' _ ⟨sm, _⟩ => sq_of (sm _ _ ha)) ?_ ?_
  · rintro i x σ H1 H2 hi ⟨sm, ⟨v2, v3, v4, v5, rfl⟩, zs, hl, hzs⟩ ⟨rfl, hx⟩
    obtain ⟨r, hr', hrow⟩ := paired_get hxs hx
    have rok := hok r (List.mem_of_getElem? hr')
    have rf := rowF_of rok
    have few := rf.few
    have hrow1 : RowAt ok kk H2 d x r := hrow.to (Keep.fr (Fr.same sm) fun _ k => k)
    obtain ⟨rest, ⟨ra, rkd, rfl, roka, rkka, hra⟩, hrest⟩ := rowV_of rok hrow1
    have lr : rest.length = (flds r).length := paired_len hrest
    have hfs := fieldsOf_some rf.names
    obtain ⟨tA, hn, htA⟩ := TF.val _ hfs
    have ix : ∀ {Q' : VK}, Q' (.str (rowWord r)) H2 → rIx K (.ref ra) (.int 0) H2 Q' := fun h => rIx_seq (sq_of hra) (atI_nat (j := 0) rfl) h
    refine ⟨_, rfl, ix ⟨dF, rowWord r, .ref tA, rfl, rfl, ⟨es, nn, .ref tA, D.at_, D.lit, hn, rfl⟩, ?_⟩⟩
    refine ⟨_, rfl, 1, rfl, rSl1 hra fun p G smG np hp => ?_⟩
    have hlG : G l = some (.lst zs) := smG _ _ hl
    refine ⟨tA, p, false, rkd, _, rest, rfl, htA G, sq_of hp, fun L nL => ?_⟩
    have nLH : H L = none := Same.free (Same.trans sm smG) nL
    have Ll : L ≠ l := fun e => by rw [e, hlG] at nL; cases nL
    refine lc_it (walk_zipQ (n := (flds r).length) (by rw [List.length_map, List.length_map]; omega)) (fun i H' => Same G H' ∧ ∃ ys, H' L = some (.lst ys) ∧ Paired (fun x (f : Str × Fl) => FlAt (fun x => H x = none ∧ x ≠ l ∧ x ≠ L) tupK H' d x f.2) ys ((flds r).take i))
      ⟨Same.new nL, [], upd_same, .nil⟩ (fun i H' _ ⟨s4, _⟩ => ⟨htA H', sq_of (s4 _ _ hp)⟩) ?_ ?_
    · rintro i2 y H3 H4 hi2 ⟨s4, ys, hL, hys⟩ ⟨T, x1, x2, rfl, nT, rfl, e1, e2⟩
      obtain ⟨ff, hff, hx2⟩ := paired_get hrest e2
      obtain rfl : x1 = .str ff.1 := by
        have e1' : (((flds r).map (·.1)).map V.str)[i2]? = some x1 := e1
        rw [List.getElem?_map, List.getElem?_map, hff] at e1'
        exact (Option.some.inj e1').symm
      have fok := rf.ok ff (List.mem_of_getElem? hff)
      have s5 : Same G (upd H3 T (.tup [.str ff.1, x2])) := Same.trans s4 (Same.new nT)
      have nLT : L ≠ T := ne_of_none hL nT
      have hL2 : (upd H3 T (.tup [.str ff.1, x2])) L = some (.lst ys) := by rw [upd_ne nLT]; exact hL
      have et : (flds r).take (i2 + 1) = (flds r).take i2 ++ [ff] := by rw [List.take_add_one, hff]; rfl
      have ly : ys.length ≤ 3 := by rw [paired_len hys, List.length_take]; omega
      have hys2 : ∀ {H5 : Hp} {z : V}, Same (upd H3 T (.tup [.str ff.1, x2])) H5 → Paired (fun x (f : Str × Fl) => FlAt (fun x => H x = none ∧ x ≠ l ∧ x ≠ L) tupK (upd H5 L (.lst (ys ++ [z]))) d x f.2) ys ((flds r).take i2) := fun {H5 z} s6 =>
        paired_imp hys fun v f h => h.to fun x kd zs k e => ⟨k, by rw [upd_ne k.2.2]; exact s6 _ _ (Same.new nT _ _ e)⟩
      refine ⟨T, _, rfl, SqT.of upd_same, rfl, _, _, rfl, _, _, rfl, rfl, rfl, ?_⟩
      refine ⟨_, rfl, rfl, _, rfl, ite2 (fun c => ?_) (fun c => ?_)⟩
      · have ec : ff.1 = "block" := V.str.inj (of_decide_eq_true c)
        cases hfl : ff.2 with
        | «at» v =>
          rw [hfl] at fok
          rcases fok with ⟨h, _⟩ | ⟨h, _⟩
          · rw [ec] at h; exact absurd h (by decide)
          · rw [ec] at h; exact absurd h (by decide)
        | blk b =>
          rw [hfl] at hx2 fok
          obtain ⟨e, rfl, hrows⟩ := hx2
          obtain ⟨_, e', he', h8, hr8⟩ := fok
          have : e = e' := Nat.succ.inj he'
          subst this
          have eF := hF e rfl
          subst eF
          have s2G : Same H2 (upd H3 T (.tup [.str ff.1, x2])) := Same.trans smG s5
          refine ⟨_, rfl, x2, ok, kk, _, b, rfl, hrows.to (Keep.fr (Fr.same s2G) fun _ k => k), by omega, hr8, fun H5 v' s6 hv' => ?_⟩
          refine ⟨ys, s6 _ _ hL2, small (by omega), Same.upN (Same.trans s5 s6) nL, ys ++ [v'], upd_same, ?_⟩
          rw [et]
          refine paired_app ?_ (hys2 s6)
          show FlAt _ tupK _ _ v' ff.2
          rw [hfl]
          refine ⟨e, rfl, hv'.to fun x kd zs k e => ?_⟩
          have xL : x ≠ L := fun z => by rw [z, hL2] at k; cases k
          have xl : x ≠ l := fun z => by rw [z, s5 _ _ hlG] at k; cases k
          exact ⟨⟨Same.free (Same.trans sm (Same.trans smG s5)) k, xl, xL⟩, by rw [upd_ne xL]; exact e⟩
      · have ec : ff.1 ≠ "block" := fun h => c (by rw [h]; exact decide_eq_true rfl)
        cases hfl : ff.2 with
        | blk b =>
          rw [hfl] at fok
          exact absurd fok.1 ec
        | «at» v =>
          rw [hfl] at hx2
          refine ⟨_, rfl, ys, hL2, small (by omega), Same.upN s5 nL, ys ++ [x2], upd_same, ?_⟩
          rw [et]
          refine paired_app ?_ (hys2 (Same.refl _))
          show FlAt _ tupK _ _ x2 ff.2
          rw [hfl]
          exact hx2
    · rintro H3 ⟨s4, ys, hL, hys⟩
      rw [List.take_length] at hys
      have ly : ys.length = (flds r).length := paired_len hys
      have one := rf.one
      have hra3 : H3 ra = some (mkO rkd (.str (rowWord r) :: rest)) := s4 _ _ (smG _ _ hra)
      have hl3 : H3 l = some (.lst zs) := s4 _ _ hlG
      -- found.append((row[0],) + tuple(parts))
      refine ⟨_, rfl, .inl ⟨rfl, _, SqL.of hl3⟩, ?_⟩
      refine ⟨_, rfl, rIx_seq (sq_of hra3) (atI_nat (j := 0) rfl) ⟨(by show 1 ≤ sizeLine; decide), fun t1 nt1 => ?_⟩⟩
      have hL4 : (upd H3 t1 (.tup [.str (rowWord r)])) L = some (.lst ys) := Same.new nt1 _ _ hL
      refine ⟨_, rfl, L, ys, rfl, .inl ⟨SqL.of hL4, fun t2 nt2 => ?_⟩⟩
      have ht1 : (upd (upd H3 t1 (.tup [.str (rowWord r)])) t2 (.tup ys)) t1 = some (.tup [.str (rowWord r)]) := Same.new nt2 _ _ upd_same
      have yne : ys ≠ [] := fun e => by rw [e] at ly; simp at ly; omega
      refine ⟨t1, t2, _, ys, rfl, rfl, SqT.of ht1, SqT.of upd_same, smallE (by simp; omega), fun e => (nomatch e), fun _ e => absurd e yne, fun _ _ t3 nt3 => ?_⟩
      have s6 : Same H3 (upd (upd (upd H3 t1 (.tup [.str (rowWord r)])) t2 (.tup ys)) t3 (.tup ([.str (rowWord r)] ++ ys))) := Same.trans (Same.new nt1) (Same.trans (Same.new nt2) (Same.new nt3))
      have h3 : (upd (upd (upd H3 t1 (.tup [.str (rowWord r)])) t2 (.tup ys)) t3 (.tup ([.str (rowWord r)] ++ ys))) t3 = some (.tup (.str (rowWord r) :: ys)) := upd_same
      have n3 : H3 t3 = none := Same.free (Same.trans (Same.new nt1) (Same.new nt2)) nt3
      generalize hG6 : upd (upd (upd H3 t1 _) t2 _) t3 _ = G6 at *
      have sH6 : Same H G6 := Same.trans sm (Same.trans smG (Same.trans s4 s6))
      have lz : zs.length ≤ 24 := by rw [paired_len hzs, List.length_take]; omega
      have n3H : H t3 = none := Same.free (Same.trans sm (Same.trans smG s4)) n3
      have t3l : t3 ≠ l := fun e => by rw [e, hl3] at n3; cases n3
      refine ⟨l, zs, _, rfl, rfl, s6 _ _ hl3, small (by omega), Same.upN sH6 nl, ⟨_, _, _, _, rfl⟩, zs ++ [.ref t3], upd_same, ?_⟩
      have et : rs.take (i + 1) = rs.take i ++ [r] := by rw [List.take_add_one, hr']; rfl
      rw [et]
      refine paired_app ?_ (paired_imp hzs fun v r h => h.to fun x kd ws k e => ⟨k, by rw [upd_ne k.2]; exact s6 _ _ (s4 _ _ (smG _ _ e))⟩)
      refine rowAt_of rok ⟨t3, false, rfl, ⟨n3H, t3l⟩, rfl, by rw [upd_ne t3l]; exact h3⟩ (paired_imp hys fun v f h => h.to fun x kd ws k e => ⟨⟨k.1, k.2.1⟩, by rw [upd_ne k.2.1]; exact s6 _ _ e⟩)
  · rintro σ H1 ⟨sm, ⟨v2, v3, v4, v5, rfl⟩, zs, hl, hzs⟩
    rw [paired_len hxs, List.take_length] at hzs
    refine ⟨_, rfl, l, zs, rfl, .inl ⟨SqL.of hl, fun t nt => ?_⟩⟩
    refine q _ _ (Same.trans sm (Same.new nt)) ⟨zs, ⟨t, false, rfl, Same.free sm nt, rfl, upd_same⟩, paired_imp hzs fun v r h => h.to fun x kd ws k e => ⟨k.1, Same.new nt _ _ e⟩⟩
theorem frozen_ok {f dF : Addr} {fd : FuncData} (F : Fun K "frozen" "frozen" sFrozen f fd) (B : Bl mg) (TF : FldT K w mg dF) (m : mg "frozen" = some (.ref f)) (b : Binds K fd ["rows"] []) :
    ∀ d : Nat, Own P w K mg base (1 + d) "frozen" ["rows"] (spFrozen d)
  | 0 => own_mk F m b (ok_Frozen (k := 0) F B TF (own_mk F m b fn_false) (fun e h => absurd h (by omega)))
  | d + 1 => own_mk F m b (ok_Frozen (k := 1 + d) F B TF (frozen_ok F B TF m b d) (fun e h => by
      have : d = e := by omega
      rw [this]))
end
end Ft
set_option Elab.async false
set_option linter.all false
set_option maxRecDepth 100000
set_option maxHeartbeats 4000000
namespace Ft
open PySem L2
def rowW : Nat → List Int → Row × Nat → List (List Int × Row)
  | 0, path, p => [(path ++ [(p.2 : Int)], p.1)]
  | d + 1, path, p => (path ++ [(p.2 : Int)], p.1) :: (blocks p.1).zipIdx.flatMap fun q => q.1.zipIdx.flatMap (rowW d (path ++ [(p.2 : Int), (q.2 : Int)]))
def walkL (d : Nat) (path : List Int) (rs : List Row) : List (List Int × Row) := rs.zipIdx.flatMap (rowW d path)
/-- what the block q of the row i gives -/
def blkW (d : Nat) (path : List Int) (i : Nat) (q : List Row × Nat) : List (List Int × Row) := match d with
  | 0 => []
  | e + 1 => walkL e (path ++ [(i : Int), (q.2 : Int)]) q.1
theorem rowW_eq {d : Nat} {wi : Bool} {r : Row} (h : RowOk d wi r) (path : List Int) (i : Nat) : rowW d path (r, i) = (path ++ [(i : Int)], r) :: (blocks r).zipIdx.flatMap (blkW d path i) := by
  cases d with
  | zero =>
    cases r with
    | plain w fs => rfl
    | _ => exact h.elim
  | succ d => rfl
def cW : Nat → Nat
  | 0 => 1
  | d + 1 => 1 + 48 * cW d
theorem flat_len {α β : Type} {f : α → List β} {c : Nat} : ∀ {l : List α}, (∀ x ∈ l, (f x).length ≤ c) → (l.flatMap f).length ≤ l.length * c
  | [], _ => by simp
  | x :: l, h => by
    rw [List.flatMap_cons, List.length_append, List.length_cons, Nat.succ_mul]
    have h1 := h x (by simp)
    have h2 := flat_len (l := l) fun y hy => h y (by simp [hy])
    omega
theorem mem_zipIdx_fst {α : Type} {l : List α} {p : α × Nat} (h : p ∈ l.zipIdx) : p.1 ∈ l := by
  obtain ⟨x, i⟩ := p
  exact (List.mem_zipIdx' h).2 ▸ List.getElem_mem _
theorem blk_ok {d : Nat} {wi : Bool} {r : Row} (h : RowOk d wi r) {b : List Row} (hb : b ∈ blocks r) : ∃ e, d = e + 1 ∧ b.length ≤ 24 ∧ ∀ r' ∈ b, RowOk e (wi || decide (rowWord r = "make")) r' := by
  have rf := rowF_of h
  rw [rf.blk] at hb
  obtain ⟨ff, hff, eff⟩ := List.mem_filterMap.mp hb
  have fok := rf.ok ff hff
  cases hfl : ff.2 with
  | «at» v => rw [hfl] at eff; cases eff
  | blk b2 =>
    rw [hfl] at eff fok
    have e2 : b2 = b := Option.some.inj eff
    subst e2
    exact fok.2
theorem blocks_len {d : Nat} {wi : Bool} {r : Row} (h : RowOk d wi r) : (blocks r).length ≤ 2 := by cases r <;> simp [blocks]
theorem rowW_len : ∀ {d : Nat} {wi : Bool} {r : Row}, RowOk d wi r → ∀ (path : List Int) (i : Nat), (rowW d path (r, i)).length ≤ cW d := by
  intro d
  induction d with
  | zero => intro wi r _ path i; exact Nat.le_refl 1
  | succ d ih =>
    intro wi r h path i
    have b3 := blocks_len h
    show (_ :: _ : List (List Int × Row)).length ≤ 1 + 48 * cW d
    rw [List.length_cons]
    have : ((blocks r).zipIdx.flatMap fun q => q.1.zipIdx.flatMap (rowW d (path ++ [(i : Int), (q.2 : Int)]))).length ≤ (blocks r).zipIdx.length * (24 * cW d) := flat_len fun q hq => by
      obtain ⟨e, he, h8, hr⟩ := blk_ok h (mem_zipIdx_fst hq)
      have : d = e := Nat.succ.inj he
      subst this
      have h1 : (q.1.zipIdx.flatMap (rowW d (path ++ [(i : Int), (q.2 : Int)]))).length ≤ q.1.zipIdx.length * cW d := flat_len fun p hp => by
        obtain ⟨r', j⟩ := p
        exact ih (hr r' (mem_zipIdx_fst hp)) _ _
      rw [List.length_zipIdx] at h1
      exact Nat.le_trans h1 (Nat.mul_le_mul_right _ h8)
    rw [List.length_zipIdx] at this
    have h2 : (blocks r).length * (24 * cW d) ≤ 2 * (24 * cW d) := Nat.mul_le_mul_right _ b3
    exact Nat.le_trans (Nat.succ_le_succ (Nat.le_trans this h2)) (by omega)
theorem walkL_len {d n : Nat} {wi : Bool} {rs : List Row} (hl : rs.length ≤ n) (h : ∀ r ∈ rs, RowOk d wi r) (path : List Int) : (walkL d path rs).length ≤ n * cW d := by
  have h1 : (walkL d path rs).length ≤ rs.zipIdx.length * cW d := flat_len fun p hp => by
    obtain ⟨r, i⟩ := p
    exact rowW_len (h r (mem_zipIdx_fst hp)) _ _
  rw [List.length_zipIdx] at h1
  exact Nat.le_trans h1 (Nat.mul_le_mul_right _ hl)
/-- a pair of a path and a row -/
def WAt (ok : Addr → Prop) (kk : Bool → Bool → Prop) (H : Hp) (d : Nat) (v : V) (q : List Int × Row) : Prop := ∃ T pv rv, v = .ref T ∧ H T = some (.tup [pv, rv]) ∧ PathAt H pv q.1 ∧ RowAt ok kk H d rv q.2
structure KT (ok ok' : Addr → Prop) (H H' : Hp) : Prop where
  k : Keep ok ok' H H'
  t : ∀ b xs, H b = some (.tup xs) → H' b = some (.tup xs)
theorem PathAt.to {H H' : Hp} {v : V} {p : List Int} (h : PathAt H v p) (t : ∀ b xs, H b = some (.tup xs) → H' b = some (.tup xs)) : PathAt H' v p := by
  obtain ⟨a, e, h⟩ := h
  exact ⟨a, e, t _ _ h⟩
theorem WAt.to {ok ok' : Addr → Prop} {kk : Bool → Bool → Prop} {H H' : Hp} {d : Nat} {v : V} {q : List Int × Row} (h : WAt ok kk H d v q) (t : KT ok ok' H H') : WAt ok' kk H' d v q := by
  obtain ⟨T, pv, rv, e, hT, hp, hr⟩ := h
  exact ⟨T, pv, rv, e, t.t _ _ hT, hp.to t.t, hr.to t.k⟩
theorem KT.same {ok : Addr → Prop} {H H' : Hp} (s : Same H H') : KT ok ok H H' := ⟨Keep.fr (Fr.same s) fun _ k => k, fun b xs e => s _ _ e⟩
theorem KT.lst {ok ok' : Addr → Prop} {H : Hp} {l : Addr} {xs ys : List V} (hl : H l = some (.lst xs)) (h : ∀ x, ok x → x ≠ l) (h' : ∀ x, ok x → ok' x) : KT ok ok' H (upd H l (.lst ys)) :=
  ⟨fun x kd zs k e => ⟨h' x k, by rw [upd_ne (h x k)]; exact e⟩, fun b zs e => by
    rw [upd_ne (fun z => by rw [z, hl] at e; cases e)]; exact e⟩
theorem KT.trans {o1 o2 o3 : Addr → Prop} {H1 H2 H3 : Hp} (a : KT o1 o2 H1 H2) (b : KT o2 o3 H2 H3) : KT o1 o3 H1 H3 := ⟨a.k.trans b.k, fun x xs e => b.t _ _ (a.t _ _ e)⟩
theorem paired_cat {α β : Type} {R : α → β → Prop} : ∀ {xs : List α} {ys : List β} {xs' : List α} {ys' : List β}, Paired R xs ys → Paired R xs' ys' → Paired R (xs ++ xs') (ys ++ ys')
  | _, _, _, _, .nil, h => h
  | _, _, _, _, .cons r t, h => .cons r (paired_cat t h)
section
variable {P : Program} {w : World} {K : PySem.W.Frag} {mg : Str → Option Value} {base : Heap}
abbrev sWalked : Stmt := topS 26
theorem scWalked : FnScope ["rows", "path", "found", "k", "row", "b", "block"] ["rows", "path"] (defScope sWalked) := ⟨rfl, rfl, rfl, by decide +kernel, rfl, by decide +kernel, by decide +kernel⟩
def spWalked (d : Nat) : Sp := fun vs H Q _ => ∃ (v pv : V) (ok : Addr → Prop) (kk : Bool → Bool → Prop) (wi : Bool) (rs : List Row) (p : List Int), vs = [v, pv] ∧ RowsAt ok kk H d v rs ∧ rs.length ≤ 24 ∧ (∀ r ∈ rs, RowOk d wi r) ∧ d ≤ 3 ∧ PathAt H pv p ∧ p.length + 2 * d ≤ 100 ∧
  ∀ H' l zs, Same H H' → H l = none → H' l = some (.lst zs) → Paired (WAt ok kk H' d) zs (walkL d p rs) → Q (.ref l) H'
theorem ok_Walked {f : Addr} {fd : FuncData} {k d : Nat} {spF : Sp} (F : Fun K "walked" "walked" sWalked f fd) (B : Bl mg) (hk : 1 ≤ k) (gBlocksOf : Own P w K mg base 1 "blocks_of" ["row"] spBlocksOf)
    (gWalked : Own P w K mg base k "walked" ["rows", "path"] spF) (hF : ∀ e, d = e + 1 → spF = spWalked e) : FnOk P w K mg base CX0 (k + 1) f fd ["rows", "path"] (spWalked d) := by
  refine F.ok scWalked (fun vs H Q E h => ?_) (fun cdv A outer s H vs Q E hr h => ?_)
  · obtain ⟨v, pv, ok, kk, wi, rs, p, rfl, _⟩ := h
    rfl
  obtain ⟨v, pv, ok, kk, wi, rs, p, rfl, hrs, hlen, hok, hd3, ⟨pa, rfl, hpa⟩, hpl, q⟩ := h
  refine ⟨_, (pss_cons (ps_set (i := 2) scWalked.nd rfl (by first | exact Or.inl rfl | exact Or.inr rfl) (pe_lst pa_nil))
      (pss_cons (ps_for PassesOwn.never rfl (pi_enumQ (by rfl) B.enumerate (pa_cons (pv 0) pa_nil)) (pg_tup (by rfl) (pgs_cons (pg_name (i := 3) scWalked.nd rfl (by first | exact Or.inl rfl | exact Or.inr rfl)) (pgs_cons (pg_name (i := 4) scWalked.nd rfl (by first | exact Or.inl rfl | exact Or.inr rfl)) pgs_nil))) (pss_cons (ps_expr (pe_bm PySem.F.plainAttrs_list PySem.F.slot_list_append PySem.F.type_list_append mt_append (pv 2) (pa_cons (pe_tup (pa_cons (pe_mid (pe_op op_catA (pv 1) (pe_tup (pa_cons (pv 3) pa_nil)))) (pa_cons (pv 4) pa_nil))) pa_nil)))
      (pss_one (ps_for PassesOwn.never rfl (pi_enumQ (by rfl) B.enumerate (pa_cons (pe_own gBlocksOf (hr.mono (by omega)) (by rfl) (pa_cons (pv 4) pa_nil)) pa_nil)) (pg_tup (by rfl) (pgs_cons (pg_name (i := 5) scWalked.nd rfl (by first | exact Or.inl rfl | exact Or.inr rfl)) (pgs_cons (pg_name (i := 6) scWalked.nd rfl (by first | exact Or.inl rfl | exact Or.inr rfl)) pgs_nil))) (pss_one (ps_expr (pe_bm PySem.F.plainAttrs_list PySem.F.slot_list_extend PySem.F.type_list_extend mt_extend (pv 2) (pa_cons (pe_own gWalked (hr.mono (by omega)) (by rfl) (pa_cons (pv 6) (pa_cons (pe_mid (pe_op op_catA (pv 1) (pe_tup (pa_cons (pv 3) (pa_cons (pv 5) pa_nil))))) pa_nil))) pa_nil))))))))
      (pss_one (ps_ret (pv 2))))), ?_⟩
  have c3 : cW d ≤ 112945 := by
    have : cW 3 = 112945 := by decide
    have h4 : d = 0 ∨ d = 1 ∨ d = 2 ∨ d = 3 := by omega
    rcases h4 with e | e | e | e <;> subst e <;> decide
  refine ⟨Nat.zero_le _, fun l nl => ?_⟩
  have s0 : Same H (upd H l (.lst [])) := Same.new nl
  have hrs2 : RowsAt (fun x => ok x ∧ x ≠ l) kk H d v rs := hrs.to (Keep.mono fun x k hx => ⟨k, fun e => hx (by rw [e]; exact nl)⟩)
  obtain ⟨xs, ⟨a, kd, rfl, oka, kka, ha⟩, hxs⟩ := hrs2
  refine ⟨_, rfl, a, kd, xs, rfl, sq_of (s0 _ _ ha), ?_⟩
  refine for_it walk_enumQ (fun i σ H' => Same H H' ∧ (∃ v3 v4 v5 v6, σ = [some (.ref a), some (.ref pa), some (.ref l), v3, v4, v5, v6]) ∧ ∃ zs, H' l = some (.lst zs) ∧ Paired (WAt (fun x => ok x ∧ x ≠ l) kk H' d) zs ((rs.zipIdx.take i).flatMap (rowW d p)))
    ⟨s0, ⟨none, none, none, none, rfl⟩, [], upd_same, .nil⟩ (fun i σ H' _ ⟨sm, _⟩ => sq_of (sm _ _ ha)) ?_ ?_
  · rintro i x σ H1 H2 hi ⟨sm, ⟨v3, v4, v5, v6, rfl⟩, zs, hl, hzs⟩ ⟨T, x1, x2, rfl, nT, rfl, e1, e2⟩
    have e1' : x1 = .int (i : Nat) := (Option.some.inj e1).symm
    subst e1'
    obtain ⟨r, hr', hrow⟩ := paired_get hxs e2
    have rok := hok r (List.mem_of_getElem? hr')
    have b3 := blocks_len rok
    have s2 : Same H1 (upd H1 T (.tup [.int (i : Nat), x2])) := Same.new nT
    refine ⟨T, _, rfl, SqT.of upd_same, rfl, _, _, rfl, _, _, rfl, rfl, ?_⟩
    have lz : zs.length ≤ 24 * cW d := by
      rw [paired_len hzs]
      have h1 : ((rs.zipIdx.take i).flatMap (rowW d p)).length ≤ (rs.zipIdx.take i).length * cW d := flat_len fun q hq => by
        obtain ⟨r', j⟩ := q
        exact rowW_len (hok r' (mem_zipIdx_fst (List.mem_of_mem_take hq))) _ _
      have h2 : (rs.zipIdx.take i).length ≤ 24 := by rw [List.length_take, List.length_zipIdx]; omega
      exact Nat.le_trans h1 (Nat.mul_le_mul_right _ h2)
    generalize hG : upd H1 T _ = G at *
    have sG : Same H G := Same.trans sm s2
    have hlG : G l = some (.lst zs) := s2 _ _ hl
    have hzsG := paired_imp hzs fun v q h => WAt.to h (KT.same s2)
    -- found.append((path + (k,), row))
    refine ⟨_, rfl, .inl ⟨rfl, _, SqL.of hlG⟩, ⟨fun v H' => ∃ b, v = .ref b ∧ H' b = some (.tup ((p ++ [(i : Int)]).map V.int)) ∧ Same G H', ?_, ?_⟩⟩
    · refine ⟨_, rfl, _, rfl, (by show 1 ≤ sizeLine; decide), fun t1 nt1 => ?_⟩
      refine ⟨pa, t1, p.map V.int, [.int (i : Nat)], rfl, rfl, SqT.of (Same.new nt1 _ _ (sG _ _ hpa)), SqT.of upd_same, smallE (by rw [List.length_map]; simp; omega), fun e => ?_, fun _ e => (nomatch e), fun _ _ t2 nt2 => ?_⟩
      · have ep : p = [] := List.map_eq_nil_iff.mp e
        subst ep
        exact ⟨t1, rfl, upd_same, Same.new nt1⟩
      · exact ⟨t2, rfl, by rw [upd_same, List.map_append]; rfl, Same.trans (Same.new nt1) (Same.new nt2)⟩
    rintro hv G1 ⟨hb, rfl, hhb, s3⟩
    refine ⟨_, rfl, (by show 2 ≤ sizeLine; decide), fun t3 nt3 => ?_⟩
    have s4 : Same G (upd G1 t3 (.tup [.ref hb, x2])) := Same.trans s3 (Same.new nt3)
    have hhb4 : (upd G1 t3 (.tup [.ref hb, x2])) hb = some (.tup ((p ++ [(i : Int)]).map V.int)) := Same.new nt3 _ _ hhb
    have ht3 : (upd G1 t3 (.tup [.ref hb, x2])) t3 = some (.tup [.ref hb, x2]) := upd_same
    generalize hG2 : upd G1 t3 _ = G2 at *
    have sG2 : Same H G2 := Same.trans sG s4
    have hl2 : G2 l = some (.lst zs) := s4 _ _ hlG
    refine ⟨l, zs, _, rfl, rfl, hl2, big (by omega), ?_⟩
    have kt2 : KT (fun x => ok x ∧ x ≠ l) (fun x => ok x ∧ x ≠ l) G2 (upd G2 l (.lst (zs ++ [.ref t3]))) := KT.lst hl2 (fun x k => k.2) fun x k => k
    have w3 : WAt (fun x => ok x ∧ x ≠ l) kk G2 d (.ref t3) (p ++ [(i : Int)], r) := ⟨t3, _, _, rfl, ht3, ⟨hb, rfl, hhb4⟩, hrow.to (Keep.fr (Fr.same sG2) fun _ k => k)⟩
    have hzs3 : Paired (WAt (fun x => ok x ∧ x ≠ l) kk (upd G2 l (.lst (zs ++ [.ref t3]))) d) (zs ++ [.ref t3]) ((rs.zipIdx.take i).flatMap (rowW d p) ++ [(p ++ [(i : Int)], r)]) :=
      paired_app (w3.to kt2) (paired_imp hzsG fun v q h => (h.to (KT.same s4)).to kt2)
    have hl3 : (upd G2 l (.lst (zs ++ [.ref t3]))) l = some (.lst (zs ++ [.ref t3])) := upd_same
    have sG3 : Same H (upd G2 l (.lst (zs ++ [.ref t3]))) := Same.upN sG2 nl
    generalize hG3 : upd G2 l _ = G3 at *
    -- the blocks
    have hrow3 : RowAt (fun x => ok x ∧ x ≠ l) kk G3 d x2 r := hrow.to (Keep.fr (Fr.same sG3) fun _ k => k)
    refine ⟨_, rfl, x2, (fun x => ok x ∧ x ≠ l), kk, d, wi, r, rfl, rok, hrow3, fun G4 bl ys s5 nb hbl hys => ?_⟩
    have lb : ys.length ≤ 2 := by rw [paired_len hys]; exact b3
    have lbl : bl ≠ l := fun e => by rw [e, hl3] at nb; cases nb
    refine ⟨bl, true, ys, rfl, sq_of hbl, ?_⟩
    have sG4 : Same H G4 := Same.trans sG3 s5
    refine for_it walk_enumQ (fun j σ H' => Same H H' ∧ H' bl = some (.lst ys) ∧ (∀ b xs, G3 b = some (.tup xs) → H' b = some (.tup xs)) ∧ (∃ v5 v6, σ = [some (.ref a), some (.ref pa), some (.ref l), some (.int (i : Nat)), some x2, v5, v6]) ∧
        ∃ zs, H' l = some (.lst zs) ∧ Paired (WAt (fun x => ok x ∧ x ≠ l) kk H' d) zs ((rs.zipIdx.take i).flatMap (rowW d p) ++ [(p ++ [(i : Int)], r)] ++ ((blocks r).zipIdx.take j).flatMap (blkW d p i)) ∧ Keep (fun x => ok x ∧ x ≠ l) (fun x => ok x ∧ x ≠ l) G3 H')
      ⟨sG4, hbl, fun b xs e => s5 _ _ e, ⟨v5, v6, rfl⟩, zs ++ [.ref t3], s5 _ _ hl3, ?_, Keep.fr (Fr.same s5) fun _ k => k⟩ (fun j σ H' _ ⟨_, h, _⟩ => sq_of (kd := true) h) ?_ ?_
    · rw [List.take_zero, List.flatMap_nil, List.append_nil]
      exact paired_imp hzs3 fun v q h => h.to (KT.same s5)
    · rintro j y σ H3 H4 hj ⟨sm4, hbl4, htup4, ⟨w5, w6, rfl⟩, zs4, hl4, hzs4, kp4⟩ ⟨T2, y1, y2, rfl, nT2, rfl, f1, f2⟩
      have f1' : y1 = .int (j : Nat) := (Option.some.inj f1).symm
      subst f1'
      obtain ⟨b, hb', e, rfl, hrows⟩ := paired_get hys f2
      have eF := hF e rfl
      subst eF
      obtain ⟨e', he', h8, hr8⟩ := blk_ok rok (List.mem_of_getElem? hb')
      have ee : e = e' := Nat.succ.inj he'
      subst ee
      have s6 : Same H3 (upd H3 T2 (.tup [.int (j : Nat), y2])) := Same.new nT2
      refine ⟨T2, _, rfl, SqT.of upd_same, rfl, _, _, rfl, _, _, rfl, rfl, ?_⟩
      generalize hG5 : upd H3 T2 _ = G5 at *
      have hl5 : G5 l = some (.lst zs4) := s6 _ _ hl4
      have sH5 : Same H G5 := Same.trans sm4 s6
      refine ⟨_, rfl, .inl ⟨rfl, _, SqL.of hl5⟩, _, rfl, ⟨fun v H' => ∃ c, v = .ref c ∧ H' c = some (.tup ((p ++ [(i : Int), (j : Int)]).map V.int)) ∧ Same G5 H', ?_, ?_⟩⟩
      · refine ⟨_, rfl, _, rfl, _, rfl, (by show 2 ≤ sizeLine; decide), fun t1 nt1 => ?_⟩
        refine ⟨pa, t1, p.map V.int, [.int (i : Nat), .int (j : Nat)], rfl, rfl, SqT.of (Same.new nt1 _ _ (sH5 _ _ hpa)), SqT.of upd_same, smallE (by rw [List.length_map]; simp; omega), fun e => ?_, fun _ e => (nomatch e), fun _ _ t2 nt2 => ?_⟩
        · have ep : p = [] := List.map_eq_nil_iff.mp e
          subst ep
          exact ⟨t1, rfl, upd_same, Same.new nt1⟩
        · exact ⟨t2, rfl, by rw [upd_same, List.map_append]; rfl, Same.trans (Same.new nt1) (Same.new nt2)⟩
      rintro cv G6 ⟨c, rfl, hc, s7⟩
      have s36 : Same H3 G6 := Same.trans s6 s7
      have hrows6 : RowsAt (fun x => ok x ∧ x ≠ l) kk G6 e y2 b := hrows.to (kp4.trans (Keep.fr (Fr.same s36) fun _ k => k))
      refine ⟨y2, .ref c, (fun x => ok x ∧ x ≠ l), kk, _, b, p ++ [(i : Int), (j : Int)], rfl, hrows6, by omega, hr8, by omega, ⟨c, rfl, hc⟩, by simp; omega, fun G7 l2 zs2 s8 nl2 hl2' hzs2 => ?_⟩
      have hl7 : G7 l = some (.lst zs4) := s8 _ _ (s7 _ _ hl5)
      have s37 : Same H3 G7 := Same.trans s36 s8
      have ce : 8 * cW e ≤ 8 * cW (e + 1) := by
        have : cW (e + 1) = 1 + 48 * cW e := rfl
        omega
      have lz2 : zs2.length ≤ 24 * cW e := by rw [paired_len hzs2]; exact walkL_len h8 hr8 _
      have lz4 : zs4.length ≤ 24 * cW (e + 1) + 1 + 2 * (24 * cW e) := by
        rw [paired_len hzs4, List.length_append, List.length_append, List.length_singleton]
        have h1 : ((rs.zipIdx.take i).flatMap (rowW (e + 1) p)).length ≤ 24 * cW (e + 1) := by rw [← paired_len hzs]; exact lz
        have h2 : (((blocks r).zipIdx.take j).flatMap (blkW (e + 1) p i)).length ≤ ((blocks r).zipIdx.take j).length * (24 * cW e) := flat_len fun q hq => by
          obtain ⟨e2, he2, h82, hr82⟩ := blk_ok rok (mem_zipIdx_fst (List.mem_of_mem_take hq))
          have ee2 : e = e2 := Nat.succ.inj he2
          subst ee2
          exact walkL_len h82 hr82 _
        have h3 : ((blocks r).zipIdx.take j).length ≤ 2 := by rw [List.length_take, List.length_zipIdx]; omega
        have h4 := Nat.mul_le_mul_right (24 * cW e) h3
        omega
      refine ⟨l, l2, zs4, zs2, rfl, rfl, hl7, hl2', bigE (by omega), ?_⟩
      have kt7 : KT (fun x => ok x ∧ x ≠ l) (fun x => ok x ∧ x ≠ l) G7 (upd G7 l (.lst (zs4 ++ zs2))) := KT.lst hl7 (fun x k => k.2) fun x k => k
      refine ⟨Same.upN (Same.trans sm4 s37) nl, ?_, fun b xs e => kt7.t _ _ (s37 _ _ (htup4 _ _ e)), ⟨_, _, rfl⟩, zs4 ++ zs2, upd_same, ?_, (kp4.trans (Keep.fr (Fr.same s37) fun _ k => k)).trans kt7.k⟩
      · rw [upd_ne lbl]
        exact s37 _ _ hbl4
      · have ez : (blocks r).zipIdx[j]? = some (b, j) := by rw [List.getElem?_zipIdx, hb']; simp
        rw [List.take_add_one, ez, List.flatMap_append, ← List.append_assoc]
        refine paired_cat (paired_imp hzs4 fun v q h => (h.to (KT.same s37)).to kt7) ?_
        rw [show ((some (b, j) : Option (List Row × Nat)).toList.flatMap (blkW (e + 1) p i)) = walkL e (p ++ [(i : Int), (j : Int)]) b by
          show List.flatMap (blkW (e + 1) p i) [(b, j)] = _
          rw [List.flatMap_cons, List.flatMap_nil, List.append_nil]
          rfl]
        exact paired_imp hzs2 fun v q h => by
          obtain ⟨T', pv', rv', e1', e2', e3', e4'⟩ := h
          exact (show WAt (fun x => ok x ∧ x ≠ l) kk G7 (e + 1) v q from ⟨T', pv', rv', e1', e2', e3', rowAt_mono _ _ _ e4'⟩).to kt7
    · rintro σ H3 ⟨sm4, hbl4, htup4, ⟨w5, w6, rfl⟩, zs4, hl4, hzs4, kp4⟩
      refine ⟨sm4, ⟨_, _, _, _, rfl⟩, zs4, hl4, ?_⟩
      have ly : ys.length = (blocks r).length := paired_len hys
      have ez : rs.zipIdx[i]? = some (r, i) := by rw [List.getElem?_zipIdx, hr']; simp
      rw [List.take_add_one, ez, List.flatMap_append]
      rw [show ((some (r, i) : Option (Row × Nat)).toList.flatMap (rowW d p)) = (p ++ [(i : Int)], r) :: (blocks r).zipIdx.flatMap (blkW d p i) by
        show List.flatMap (rowW d p) [(r, i)] = _
        rw [List.flatMap_cons, List.flatMap_nil, List.append_nil, rowW_eq rok]]
      have et : (blocks r).zipIdx.take ys.length = (blocks r).zipIdx := List.take_of_length_le (by rw [List.length_zipIdx]; omega)
      rw [et, List.append_assoc] at hzs4
      exact hzs4
  · rintro σ H1 ⟨sm, ⟨v3, v4, v5, v6, rfl⟩, zs, hl, hzs⟩
    have et : rs.zipIdx.take xs.length = rs.zipIdx := List.take_of_length_le (by rw [List.length_zipIdx, paired_len hxs]; omega)
    rw [et] at hzs
    exact ⟨_, rfl, q _ l zs sm nl hl (paired_imp hzs fun v q h => h.to ⟨Keep.mono fun x k _ => k.1, fun b xs e => e⟩)⟩
theorem walked_ok {f : Addr} {fd : FuncData} (F : Fun K "walked" "walked" sWalked f fd) (B : Bl mg) (m : mg "walked" = some (.ref f)) (b : Binds K fd ["rows", "path"] []) (gBlocksOf : Own P w K mg base 1 "blocks_of" ["row"] spBlocksOf) :
    ∀ d : Nat, Own P w K mg base (2 + d) "walked" ["rows", "path"] (spWalked d)
  | 0 => own_mk F m b (ok_Walked (k := 1) F B (by omega) gBlocksOf (own_mk F m b fn_false) (fun e h => absurd h (by omega)))
  | d + 1 => own_mk F m b (ok_Walked (k := 2 + d) F B (by omega) gBlocksOf (walked_ok F B m b gBlocksOf d) (fun e h => by
      have : d = e := by omega
      rw [this]))
end
end Ft
set_option Elab.async false
set_option linter.all false
set_option maxRecDepth 100000
set_option maxHeartbeats 4000000
namespace Ft
open PySem L2
theorem dc_it {J : It} {n : Nat} {G : Hp → Prop} {Y : Nat → Hp → V → Hp → Prop} (w : Walk J n G Y) {g : TG} {tt : TT} {tk tv : TE} {vs : List Nat} {σ : L2.St} {H1 : Hp} {D : Addr} {Qd : Hp → Prop} (Pv : Nat → Hp → Prop) (h0 : Pv 0 (upd H1 D (.dK []))) (hG : ∀ i H, i ≤ n → Pv i H → G H)
    (hs : ∀ i x H H', i < n → Pv i H → Y i H x H' → g x (wipe σ vs) H' fun σ2 H2 => wipe σ2 vs = wipe σ vs ∧ tt σ2 H2 fun b H3 =>
      if b = true then tk σ2 H3 fun y H4 => tv σ2 H4 fun z H5 => ∃ kvs k, y = kV k ∧ H5 D = some (.dK kvs) ∧ kvs.length < sizeLine ∧ Pv (i + 1) (upd H5 D (.dK (putK kvs k z))) else Pv (i + 1) H3) (hd : ∀ H, Pv n H → Qd H) :
    ∃ W : Nat → Nat → Hp → Prop, (∃ m, W 0 m (upd H1 D (.dK []))) ∧ ∀ i m H, W i m H →
      (J.stop i H ∧ Qd H) ∨ (J.go i H ∧ ∃ Nx : Hp → Prop, (∀ H', Nx H' → ∃ m', m' < m ∧ W (i + 1) m' H') ∧ ∀ x H', J.yld i H x H' → g x (wipe σ vs) H' fun σ2 H2 => wipe σ2 vs = wipe σ vs ∧ tt σ2 H2 fun b H3 =>
        if b = true then tk σ2 H3 fun y H4 => tv σ2 H4 fun z H5 => ∃ kvs k, y = kV k ∧ H5 D = some (.dK kvs) ∧ kvs.length < sizeLine ∧ Nx (upd H5 D (.dK (putK kvs k z))) else Nx H3) := by
  refine ⟨fun i m H => m = n - i ∧ i ≤ n ∧ Pv i H, ⟨n, by simp, Nat.zero_le _, h0⟩, ?_⟩
  rintro i m H ⟨rfl, hi, p⟩
  have q := hG i H hi p
  by_cases hlt : i < n
  · refine .inr ⟨w.goes i H hlt q, Pv (i + 1), fun H' p' => ⟨n - (i + 1), by omega, rfl, hlt, p'⟩, fun x H' y => hs i x H H' hlt p (w.yields i H x H' hlt q y)⟩
  · have e : i = n := by omega
    subst e
    exact .inl ⟨w.stops H q, hd H p⟩
def isImp (r : Row) : Bool := decide (rowWord r = "load") || decide (rowWord r = "pick")
def spotsM (m : Str × List Row) : List (Str × List Int) := ((walkL 3 [] m.2).filter fun q => isImp q.2).map fun q => (m.1, q.1)
def spotsL (lib : Lib) : List (Str × List Int) := lib.flatMap spotsM
def SpotAt (H : Hp) (v : V) (q : Str × List Int) : Prop := ∃ T pv, v = .ref T ∧ H T = some (.tup [.str q.1, pv]) ∧ PathAt H pv q.2
theorem SpotAt.to {H H' : Hp} {v : V} {q : Str × List Int} (h : SpotAt H v q) (t : ∀ b xs, H b = some (.tup xs) → H' b = some (.tup xs)) : SpotAt H' v q := by
  obtain ⟨T, pv, e, hT, hp⟩ := h
  exact ⟨T, pv, e, t _ _ hT, hp.to t⟩
theorem lib_perm {ys ks : List Str} (h : ys.Perm ks) : ∀ lib : Lib, lib.map (·.1) = ks → ∃ rest : Lib, rest.map (·.1) = ys ∧ rest.Perm lib := by
  induction h with
  | nil => intro lib e; exact ⟨[], rfl, by rw [List.map_eq_nil_iff.mp e]⟩
  | cons x h ih =>
    intro lib e
    cases lib with
    | nil => cases e
    | cons m lib =>
      rw [List.map_cons] at e
      obtain ⟨rest, h1, h2⟩ := ih lib (List.cons.inj e).2
      exact ⟨m :: rest, by rw [List.map_cons, h1, (List.cons.inj e).1], h2.cons m⟩
  | swap x y l =>
    intro lib e
    cases lib with
    | nil => cases e
    | cons m lib =>
      cases lib with
      | nil => cases (List.cons.inj e).2
      | cons m2 lib =>
        rw [List.map_cons, List.map_cons] at e
        have e1 := (List.cons.inj e).1
        have e2 := (List.cons.inj (List.cons.inj e).2).1
        have e3 := (List.cons.inj (List.cons.inj e).2).2
        exact ⟨m2 :: m :: lib, by rw [List.map_cons, List.map_cons, e1, e2, e3], List.Perm.swap m m2 lib⟩
  | trans _ _ ih1 ih2 =>
    intro lib e
    obtain ⟨r2, h3, h4⟩ := ih2 lib e
    obtain ⟨r1, h5, h6⟩ := ih1 r2 h3
    exact ⟨r1, h5, h6.trans h4⟩
theorem libR_perm {lib lib' : Lib} (h : lib'.Perm lib) (l : LibR lib) : LibR lib' where
  few := by rw [h.length_eq]; exact l.few
  pos := by rw [h.length_eq]; exact l.pos
  nd := (h.map (·.1)).nodup_iff.mpr l.nd
  word := fun m hm => l.word m (h.mem_iff.mp hm)
  len := fun m hm => l.len m (h.mem_iff.mp hm)
  rows := fun m hm => l.rows m (h.mem_iff.mp hm)
theorem putL_newL {lib : Lib} {z : Str} {rs : List Row} (h : z ∉ lib.map (·.1)) : putL lib z rs = lib ++ [(z, rs)] := by
  unfold putL
  rw [if_neg]
  intro e
  obtain ⟨m, hm, q⟩ := List.any_eq_true.mp e
  exact h (List.mem_map.mpr ⟨m, hm, of_decide_eq_true q⟩)
theorem valV_at {kvs : List (Key × V)} {i : Nat} {k : Key} {v : V} (hn : (kvs.map (·.1)).Nodup) (h : kvs[i]? = some (k, v)) : valV kvs k = some v := by
  induction kvs generalizing i with
  | nil => simp at h
  | cons kv kvs ih =>
    rw [List.map_cons, List.nodup_cons] at hn
    cases i with
    | zero =>
      have e : kv = (k, v) := Option.some.inj h
      subst e
      unfold valV
      rw [List.find?_cons_of_pos (p := fun kv : Key × V => decide (kv.1 = k)) (by exact decide_eq_true rfl)]
      rfl
    | succ i =>
      have h' : kvs[i]? = some (k, v) := h
      have := ih hn.2 h'
      have ne : ¬ kv.1 = k := fun e => hn.1 (by rw [e]; exact List.mem_map.mpr ⟨_, List.mem_of_getElem? h', rfl⟩)
      unfold valV at this ⊢
      rw [List.find?_cons_of_neg (by rw [decide_eq_false ne]; exact Bool.false_ne_true)]
      exact this
theorem libAt_nd {ok : Addr → Prop} {kk : Bool → Bool → Prop} {H : Hp} {kvs : List (Key × V)} {lib : Lib} (h : LibAt ok kk H kvs lib) (hn : (lib.map (·.1)).Nodup) : (kvs.map (·.1)).Nodup := by
  rw [libAt_keys h]
  have go : ∀ l : List Str, l.Nodup → (l.map (Sum.inr : Str → Key)).Nodup := by
    intro l hl
    induction l with
    | nil => simp
    | cons x l ih =>
      rw [List.nodup_cons] at hl
      rw [List.map_cons, List.nodup_cons]
      refine ⟨fun hm => ?_, ih hl.2⟩
      obtain ⟨y, hy, e⟩ := List.mem_map.mp hm
      rw [Sum.inr.inj e] at hy
      exact hl.1 hy
  exact go _ hn
theorem putF_spots (r v : V) : putF "spots" v [(("rows_of" : Str), r)] = [(("rows_of" : Str), r), ("spots", v)] := by
  unfold putF
  rw [if_neg (by decide)]
  rfl
theorem lk_rows (r v : V) : List.lookup ("rows_of" : Str) [(("rows_of" : Str), r), ("spots", v)] = some r := by simp [List.lookup]
theorem lk_spots (r v : V) : List.lookup ("spots" : Str) [(("rows_of" : Str), r), ("spots", v)] = some v := by
  have : (("spots" : Str) == "rows_of") = false := by decide
  simp [List.lookup, this]
def loadPick : List V := [.str "load", .str "pick"]
theorem inV_imp (r : Row) : inV (.str (rowWord r)) loadPick = isImp r := by
  show (eqV (.str "load") (.str (rowWord r)) || (eqV (.str "pick") (.str (rowWord r)) || false)) = _
  rw [Bool.or_false]
  have h1 : ∀ a b : Str, eqV (.str a) (.str b) = decide (b = a) := fun a b => by
    show (a == b) = _
    by_cases e : b = a
    · rw [e]; simp
    · have e' : ¬ a = b := fun h => e h.symm
      simp [e, e']
  rw [h1, h1]
  rfl
theorem rowAt_head {ok : Addr → Prop} {kk : Bool → Bool → Prop} {H : Hp} {v : V} {r : Row} : ∀ {d : Nat}, RowAt ok kk H d v r → ∃ a kd rest, v = .ref a ∧ kk false kd ∧ H a = some (mkO kd (.str (rowWord r) :: rest)) := by
  intro d h
  have g : ∀ {xs : List V}, At ok (kk false) H v (.str (rowWord r) :: xs) → ∃ a kd rest, v = .ref a ∧ kk false kd ∧ H a = some (mkO kd (.str (rowWord r) :: rest)) := fun h => by
    obtain ⟨a, kd, e, _, k, m⟩ := h
    exact ⟨a, kd, _, e, k, m⟩
  cases d with
  | zero =>
    cases r with
    | plain w fs => exact g h
    | _ => exact h.elim
  | succ d =>
    cases r with
    | plain w fs => exact g h
    | make n b =>
      obtain ⟨vb, xs, h1, _⟩ := h
      exact g h1
    | when n b c =>
      obtain ⟨vb, xs, vc, ys, h1, _⟩ := h
      exact g h1
    | try_ b c =>
      obtain ⟨vb, xs, vc, ys, h1, _⟩ := h
      exact g h1
/-- what is known of the class Program -/
structure PCls (K : PySem.W.Frag) (mg : Str → Option Value) (C : Addr) : Prop where
  g : mg "Program" = some (.ref C)
  cl : Cls K C
  nR : NoAttr K C "rows_of"
  nS : NoAttr K C "spots"
section
variable {P : Program} {w : World} {K : PySem.W.Frag} {mg : Str → Option Value} {base : Heap}
abbrev sProgramInit : Stmt := inClass (topS 34) 0
theorem scProgramInit : FnScope ["self", "modules", "word", "rows", "path", "row"] ["self", "modules"] (defScope sProgramInit) := ⟨rfl, rfl, rfl, by decide +kernel, rfl, by decide +kernel, by decide +kernel⟩
/-- a Program at x: its rows, its places -/
structure ProgAt (ok : Addr → Prop) (H : Hp) (C x dx rd sl : Addr) (lib : Lib) : Prop where
  ins : H x = some (.ins C dx [("rows_of", .ref rd), ("spots", .ref sl)])
  rows : ∃ kvs, H rd = some (.dK kvs) ∧ LibAt ok tupK H kvs lib
  spots : ∃ zs, H sl = some (.lst zs) ∧ Paired (SpotAt H) zs (spotsL lib)
def spProgramInit (C : Addr) : Sp := fun vs H Q _ => ∃ (x dx dm : Addr) (kvs : List (Key × V)) (lib : Lib) (ok : Addr → Prop) (kk : Bool → Bool → Prop), vs = [.ref x, .ref dm] ∧ H x = some (.ins C dx []) ∧ H dm = some (.dK kvs) ∧ LibAt ok kk H kvs lib ∧ ¬ ok x ∧ LibR lib ∧
  ∀ H' rd sl lib2, Fr (· ≠ x) H H' → ProgAt (fun y => H y = none) H' C x dx rd sl lib2 → lib2.Perm lib → PyProof.Rows.sortedS (lib2.map (·.1)) = true → H rd = none → H sl = none → Q .non H'
theorem ok_ProgramInit {f C : Addr} {fd : FuncData} {k : Nat} (F : Fun K "__init__" "Program.__init__" sProgramInit f fd) (B : Bl mg) (PC : PCls K mg C) (hk : 9 ≤ k) (gCheckModules : Own P w K mg base 9 "check_modules" ["modules"] spCheckModules)
    (gFrozen : Own P w K mg base 4 "frozen" ["rows"] (spFrozen 3)) (gWalked : Own P w K mg base 5 "walked" ["rows", "path"] (spWalked 3)) : FnOk P w K mg base CX0 (k + 1) f fd ["self", "modules"] (spProgramInit C) := by
  refine F.ok scProgramInit (fun vs H Q E h => ?_) (fun cdv A outer s H vs Q E hr h => ?_)
  · obtain ⟨x, dx, dm, kvs, lib, ok, kk, rfl, _⟩ := h
    rfl
  obtain ⟨x, dx, dm, kvs, lib, ok, kk, rfl, hx, hdm, hlib, okx, lr, q⟩ := h
  refine ⟨_, (pss_cons (ps_expr (pe_own gCheckModules (hr.mono (by omega)) (by rfl) (pa_cons (pv 1) pa_nil)))
      (pss_cons (ps_fld (pv 0) (pe_dc (own := [("word", 2)]) (g := (gName 2)) (tt := tYes) (by rfl) scProgramInit.nd (pi_list (pe_callB (call_sortedD rfl) (by rfl) B.sorted (by decide +kernel) (pa_cons (pv 1) pa_nil))) (blkOk_by (own := [("word", 2)]) (N := ["self", "modules", "word", "rows", "path", "row"]) (sc := defScope sProgramInit) (by decide +kernel)) (fun _ _ _ _ _ => (pg_name (i := 2) scProgramInit.nd rfl (by first | exact Or.inl rfl | exact Or.inr rfl))) (fun _ _ _ _ _ => pts_nil) (fun _ _ _ _ _ => (pv 2)) (fun _ _ _ _ _ => (pe_own gFrozen (hr.mono (by omega)) (by rfl) (pa_cons (pe_dget (hu_of hr) (pv 1) (pv 2) (fun _ _ => rfl)) pa_nil)))) rfl)
      (pss_cons (ps_fld (pv 0) (pe_lst pa_nil) rfl)
      (pss_one (ps_lock (ps_for PassesOwn.never rfl (pi_keys (pe_fld (pv 0) rfl)) (pg_name (i := 2) scProgramInit.nd rfl (by first | exact Or.inl rfl | exact Or.inr rfl)) (pss_cons (ps_set (i := 3) scProgramInit.nd rfl (by first | exact Or.inl rfl | exact Or.inr rfl) (pe_own gWalked (hr.mono (by omega)) (by rfl) (pa_cons (pe_dget (hu_of hr) (pe_fld (pv 0) rfl) (pv 2) (fun _ _ => rfl)) (pa_cons (pe_tup pa_nil) pa_nil))))
      (pss_one (ps_expr (pe_bm PySem.F.plainAttrs_list PySem.F.slot_list_extend PySem.F.type_list_extend mt_extend (pe_fld (pv 0) rfl) (pa_cons (pe_lc (own := [("path", 4), ("row", 5)]) (g := (gTup _ 2 (gCons (gName 4) (gCons (gName 5) gNil)))) (by rfl) scProgramInit.nd (pi_list (pv 3)) (blkOk_by (own := [("path", 4), ("row", 5)]) (N := ["self", "modules", "word", "rows", "path", "row"]) (sc := defScope sProgramInit) (by decide +kernel)) (fun _ _ _ _ _ => (pg_tup (by rfl) (pgs_cons (pg_name (i := 4) scProgramInit.nd rfl (by first | exact Or.inl rfl | exact Or.inr rfl)) (pgs_cons (pg_name (i := 5) scProgramInit.nd rfl (by first | exact Or.inl rfl | exact Or.inr rfl)) pgs_nil)))) (fun _ _ _ _ _ => (pts_one (pt_cmpR (opK (K := K) (fun K => rIn K false) op_in_seq rfl) (pe_ix (ixK (K := K) rIxT ix_tup rfl) (pv 5) pe_int (fun _ _ => rfl)) (pe_tup (pa_cons pe_str (pa_cons pe_str pa_nil))) (by rfl)))) (fun _ _ _ _ _ => (pe_tup (pa_cons (pv 2) (pa_cons (pv 4) pa_nil))))) pa_nil))))))))))), ?_⟩
  have few := lr.few
  have hkeys := libAt_keys hlib
  refine ⟨_, rfl, dm, kvs, lib, ok, kk, rfl, hdm, hlib, lr, fun H1 s1 => ?_⟩
  have hdm1 : H1 dm = some (.dK kvs) := s1 _ _ hdm
  refine ⟨_, rfl, dm, kvs, lib.map (·.1), rfl, .inl hdm1, hkeys, by rw [List.length_map]; omega, fun ys l0 hperm hsort nl0 => ?_⟩
  have s2 : Same H (upd H1 l0 (.lst (ys.map V.str))) := Same.trans s1 (Same.new nl0)
  have hl0 : (upd H1 l0 (.lst (ys.map V.str))) l0 = some (.lst (ys.map V.str)) := upd_same
  generalize hG : upd H1 l0 _ = G at *
  obtain ⟨lib2, e2, p2⟩ := lib_perm hperm lib rfl
  have lr2 := libR_perm p2 lr
  have lylen : ys.length = lib2.length := by rw [← e2, List.length_map]
  refine ⟨l0, rfl, ⟨_, SqL.of hl0⟩, fun D nD => ?_⟩
  have nDH : H D = none := Same.free s2 nD
  have Dx : D ≠ x := fun e => by rw [e, hx] at nDH; cases nDH
  refine dc_it (walk_list (xs := ys.map V.str)) (fun i H' => Same G H' ∧ ∃ kvs', H' D = some (.dK kvs') ∧ LibAt (fun y => H y = none ∧ y ≠ D) tupK H' kvs' (lib2.take i))
    ⟨Same.new nD, [], upd_same, .nil⟩ (fun i H' _ ⟨sm, _⟩ => SqL.of (sm _ _ hl0)) ?_ ?_
  · rintro i x' H2 H3 hi ⟨s3, kvs', hD, hl⟩ ⟨rfl, hx'⟩
    obtain ⟨⟨z, rs⟩, hm, rfl⟩ : ∃ m : Str × List Row, lib2[i]? = some m ∧ x' = .str m.1 := by
      rw [← e2, List.getElem?_map, List.getElem?_map] at hx'
      cases e : lib2[i]? with
      | none => rw [e] at hx'; cases hx'
      | some m => rw [e] at hx'; exact ⟨m, rfl, (Option.some.inj hx').symm⟩
    have s4 : Same H H3 := Same.trans s2 s3
    have hd3 : H3 dm = some (.dK kvs) := s4 _ _ hdm
    have mem : (z, rs) ∈ lib := p2.mem_iff.mp (List.mem_of_getElem? hm)
    obtain ⟨v, hv, hrows⟩ := libAt_val (hlib.to (Keep.fr (Fr.same s4) fun _ k => k)) lr.nd mem
    have dg : DGet H3 dm (.str z) (some v) := by rw [← hv]; exact DGet.k (k := Sum.inr z) hd3
    refine ⟨rfl, ?_⟩
    refine ⟨_, rfl, _, rfl, _, rfl, dm, v, rfl, dg, v, ok, kk, false, rs, rfl, hrows, lr.len _ mem, lr.rows _ mem, fun H5 v' s5 hv' => ?_⟩
    have hD5 : H5 D = some (.dK kvs') := s5 _ _ hD
    have lk : kvs'.length ≤ 8 := by rw [libAt_len hl, List.length_take]; have := lr2.few; omega
    refine ⟨kvs', Sum.inr z, rfl, hD5, big (by omega), Same.upN (Same.trans s3 s5) nD, _, upd_same, ?_⟩
    have nz : z ∉ (lib2.take i).map (·.1) := fun h => by
      have nd := lr2.nd
      obtain ⟨m', hm', e'⟩ := List.mem_map.mp h
      obtain ⟨j, hj, ej⟩ := List.mem_iff_getElem.mp hm'
      rw [List.length_take] at hj
      rw [List.getElem_take] at ej
      have h1 : (lib2.map (·.1))[j]? = some z := by rw [List.getElem?_map, List.getElem?_eq_getElem (by omega), ej]; exact congrArg some e'
      have h2 : (lib2.map (·.1))[i]? = some z := by rw [List.getElem?_map, hm]; rfl
      have := nd_ix nd h1 h2
      omega
    have et : lib2.take (i + 1) = lib2.take i ++ [(z, rs)] := by rw [List.take_add_one, hm]; rfl
    rw [et, ← putL_newL nz]
    refine libAt_put (hl.to fun y kd ws k e => ⟨k, by rw [upd_ne k.2]; exact s5 _ _ e⟩) (hv'.to fun y kd ws k e => ?_)
    have yD : y ≠ D := fun e => by rw [e, hD] at k; cases k
    exact ⟨⟨Same.free s4 k, yD⟩, by rw [upd_ne yD]; exact e⟩
  · rintro H2 ⟨s3, kvs2, hD, hl⟩
    rw [List.length_map, lylen, List.take_length] at hl
    have s4 : Same H H2 := Same.trans s2 s3
    have hx2 : H2 x = some (.ins C dx []) := s4 _ _ hx
    -- self.rows_of = ..
    refine ⟨_, rfl, x, C, dx, [], rfl, hx2, PC.cl, PC.nR, by show 0 < 1000; decide, ?_⟩
    have hx3 : (upd H2 x (.ins C dx (putF "rows_of" (.ref D) []))) x = some (.ins C dx [("rows_of", .ref D)]) := upd_same
    have fr3 : Fr (· ≠ x) H (upd H2 x (.ins C dx (putF "rows_of" (.ref D) []))) := fun b o k e => by rw [upd_ne k]; exact s4 _ _ e
    have hD3 : (upd H2 x (.ins C dx (putF "rows_of" (.ref D) []))) D = some (.dK kvs2) := by rw [upd_ne Dx]; exact hD
    have hl3 : LibAt (fun y => H y = none ∧ y ≠ D) tupK (upd H2 x (.ins C dx (putF "rows_of" (.ref D) []))) kvs2 lib2 := hl.to fun y kd ws k e => ⟨k, by
      rw [upd_ne (fun z => by rw [z, hx] at k; cases k.1)]; exact e⟩
    generalize hG3 : upd H2 x _ = G3 at *
    -- self.spots = []
    refine ⟨Nat.zero_le _, fun sl nsl => ⟨_, rfl, x, C, dx, _, rfl, by rw [upd_ne (fun e => by rw [← e, hx3] at nsl; cases nsl)]; exact hx3, PC.cl, PC.nS, by show 1 < 1000; decide, ?_⟩⟩
    have slx : sl ≠ x := fun e => by rw [e, hx3] at nsl; cases nsl
    have nslH : H sl = none := fr3.free slx nsl
    have slD : sl ≠ D := fun e => by rw [e, hD3] at nsl; cases nsl
    rw [putF_spots]
    have fr4 : Fr (· ≠ x) H (upd (upd G3 sl (.lst [])) x (.ins C dx [("rows_of", .ref D), ("spots", .ref sl)])) := fun b o k e => by
      rw [upd_ne k, upd_ne (ne_of_none (fr3 _ _ k e) nsl)]; exact fr3 _ _ k e
    have hx4 : (upd (upd G3 sl (.lst [])) x (.ins C dx [("rows_of", .ref D), ("spots", .ref sl)])) x = some (.ins C dx [("rows_of", .ref D), ("spots", .ref sl)]) := upd_same
    have hsl4 : (upd (upd G3 sl (.lst [])) x (.ins C dx [("rows_of", .ref D), ("spots", .ref sl)])) sl = some (.lst []) := by rw [upd_ne slx]; exact upd_same
    have hD4 : (upd (upd G3 sl (.lst [])) x (.ins C dx [("rows_of", .ref D), ("spots", .ref sl)])) D = some (.dK kvs2) := by rw [upd_ne Dx, upd_ne slD.symm]; exact hD3
    have hl4 : LibAt (fun y => H y = none ∧ y ≠ D ∧ y ≠ sl) tupK (upd (upd G3 sl (.lst [])) x (.ins C dx [("rows_of", .ref D), ("spots", .ref sl)])) kvs2 lib2 := hl3.to fun y kd ws k e => by
      have yx : y ≠ x := fun z => by rw [z, hx] at k; cases k.1
      have ys : y ≠ sl := ne_of_none e nsl
      exact ⟨⟨k.1, k.2, ys⟩, by rw [upd_ne yx, upd_ne ys]; exact e⟩
    generalize hG4 : upd (upd G3 sl _) x _ = G4 at *
    -- the loop, its dict locked
    refine ⟨D, .dK kvs2, hD4, trivial, fun od => ?_⟩
    have hx5 : (upd G4 D (.frz od (.dK kvs2))) x = some (.ins C dx [("rows_of", .ref D), ("spots", .ref sl)]) := by rw [upd_ne Dx.symm]; exact hx4
    have hsl5 : (upd G4 D (.frz od (.dK kvs2))) sl = some (.lst []) := by rw [upd_ne slD]; exact hsl4
    have hD5 : (upd G4 D (.frz od (.dK kvs2))) D = some (.frz od (.dK kvs2)) := upd_same
    have fr5 : Fr (· ≠ x) H (upd G4 D (.frz od (.dK kvs2))) := fr4.upN nDH
    have hl5 : LibAt (fun y => H y = none ∧ y ≠ D ∧ y ≠ sl) tupK (upd G4 D (.frz od (.dK kvs2))) kvs2 lib2 := hl4.to fun y kd ws k e => ⟨k, by rw [upd_ne k.2.1]; exact e⟩
    generalize hG5 : upd G4 D _ = G5 at *
    refine ⟨_, rfl, x, C, dx, _, _, rfl, hx5, PC.cl, PC.nR, lk_rows _ _, D, od, rfl, .inl ⟨kvs2, hD5, ?_⟩⟩
    have lkv : kvs2.length = lib2.length := libAt_len hl5
    refine for_it walk_keys (fun i σ H' => Fr (· ≠ x) H H' ∧ H' x = some (.ins C dx [("rows_of", .ref D), ("spots", .ref sl)]) ∧ H' D = some (.frz od (.dK kvs2)) ∧ LibAt (fun y => H y = none ∧ y ≠ D ∧ y ≠ sl) tupK H' kvs2 lib2 ∧
        (∃ v2 v3 v4 v5, σ = [some (.ref x), some (.ref dm), v2, v3, v4, v5]) ∧ ∃ zs, H' sl = some (.lst zs) ∧ Paired (SpotAt H') zs ((lib2.take i).flatMap spotsM))
      ⟨fr5, hx5, hD5, hl5, ⟨_, _, _, _, rfl⟩, [], hsl5, .nil⟩ (fun i σ H' _ ⟨_, _, h, _⟩ => h) ?_ ?_
    · rintro i xx σ H6 H7 hi ⟨fr6, hx6, hD6, hl6, ⟨v2, v3, v4, v5, rfl⟩, zs, hs6, hz6⟩ ⟨rfl, kx, vx, hkv, rfl⟩
      obtain ⟨⟨z, rs⟩, hm, hkz, hrows⟩ := paired_get hl6 hkv
      have hkz' : kx = Sum.inr z := hkz
      subst hkz'
      have mem2 := List.mem_of_getElem? hm
      have dg : DGet H7 D (.str z) (some vx) := .inl ⟨kvs2, Sum.inr z, .inr ⟨od, hD6⟩, rfl, (valV_at (libAt_nd hl6 lr2.nd) hkv).symm⟩
      -- rows = walked(self.rows_of[word], ())
      refine ⟨_, rfl, x, C, dx, _, _, rfl, hx6, PC.cl, PC.nR, lk_rows _ _, _, rfl, D, vx, rfl, dg, Nat.zero_le _, fun t0 nt0 => ?_⟩
      have s7 : Same H7 (upd H7 t0 (.tup [])) := Same.new nt0
      refine ⟨vx, .ref t0, (fun y => H y = none ∧ y ≠ D ∧ y ≠ sl), tupK, false, rs, [], rfl, hrows.to (Keep.fr (Fr.same s7) fun _ k => k), lr2.len _ mem2, lr2.rows _ mem2, by omega, ⟨t0, rfl, upd_same⟩, by simp, fun H8 wl ws s8 nwl hwl hws => ?_⟩
      have s78 : Same H7 H8 := Same.trans s7 s8
      have hx8 := s78 _ _ hx6
      have hsl8 := s78 _ _ hs6
      -- self.spots.extend([..])
      refine ⟨_, rfl, x, C, dx, _, _, rfl, hx8, PC.cl, PC.nS, lk_spots _ _, .inl ⟨rfl, _, SqL.of hsl8⟩, ?_⟩
      refine ⟨_, rfl, wl, rfl, ⟨_, SqL.of hwl⟩, fun L nL => ?_⟩
      have lwl : (walkL 3 [] rs).length ≤ 2710680 := by
        have : (walkL 3 [] rs).length ≤ 24 * cW 3 := walkL_len (lr2.len _ mem2) (lr2.rows _ mem2) []
        have c3 : cW 3 = 112945 := by decide
        omega
      have lws : ws.length = (walkL 3 [] rs).length := paired_len hws
      refine lc_it walk_list (fun j H' => Same H8 H' ∧ ∃ us, H' L = some (.lst us) ∧ Paired (SpotAt H') us ((((walkL 3 [] rs).take j).filter fun q => isImp q.2).map fun q => (z, q.1)))
        ⟨Same.new nL, [], upd_same, .nil⟩ (fun j H' _ ⟨sm, _⟩ => SqL.of (sm _ _ hwl)) ?_ ?_
      · rintro j y H9 H10 hj ⟨s9, us, hL, hus⟩ ⟨rfl, hy⟩
        obtain ⟨⟨pp, r⟩, hq, T, pv, rv, rfl, hT, hpv, hrv⟩ := paired_get hws hy
        have hT10 := s9 _ _ hT
        have hpv10 := hpv.to fun b xs e => s9 _ _ e
        have et : (walkL 3 [] rs).take (j + 1) = (walkL 3 [] rs).take j ++ [(pp, r)] := by rw [List.take_add_one, hq]; rfl
        have lus : us.length ≤ 2710680 := by
          rw [paired_len hus, List.length_map]
          exact Nat.le_trans (List.length_filter_le _ _) (by rw [List.length_take]; omega)
        refine ⟨T, _, rfl, SqT.of hT10, rfl, _, _, rfl, _, _, rfl, rfl, rfl, ?_⟩
        -- row[0]
        have hr0 : ∃ ra rest, rv = .ref ra ∧ H10 ra = some (.tup (.str (rowWord r) :: rest)) := by
          obtain ⟨ra, kd, rest, e, hkd, h⟩ := rowAt_head hrv
          have hkd' : kd = false := hkd
          subst hkd'
          exact ⟨ra, rest, e, s9 _ _ h⟩
        obtain ⟨ra, rest, rfl, hra⟩ := hr0
        refine ⟨_, rfl, ra, _, 0, _, rfl, rfl, SqT.of hra, atI_nat (j := 0) rfl, (by show 2 ≤ sizeLine; decide), fun t1 nt1 => ?_⟩
        refine ⟨t1, loadPick, rfl, .inr (SqT.of upd_same), rfl, rfl, _, rfl, ?_⟩
        show if inV (.str (rowWord r)) loadPick = true then _ else _
        rw [inV_imp]
        have hus1 := paired_imp hus fun v q h => SpotAt.to h fun b xs e => Same.new (p := t1) (o := .tup loadPick) nt1 _ _ e
        cases himp : isImp r with
        | false =>
          refine iteF ⟨Same.trans s9 (Same.new nt1), us, Same.new nt1 _ _ hL, ?_⟩
          rw [et, List.filter_append, List.map_append]
          have e0 : List.filter (fun q : List Int × Row => isImp q.2) [(pp, r)] = [] := by
            rw [List.filter_cons_of_neg (by rw [himp]; exact Bool.false_ne_true)]; rfl
          rw [e0, List.map_nil, List.append_nil]
          exact hus1
        | true =>
          refine iteT ⟨_, rfl, _, rfl, (by show 2 ≤ sizeLine; decide), fun t2 nt2 => ?_⟩
          have hL2 : (upd (upd H10 t1 (.tup loadPick)) t2 (.tup [.str z, pv])) L = some (.lst us) := Same.new (o := .tup [.str z, pv]) nt2 _ _ (Same.new (o := .tup loadPick) nt1 _ _ hL)
          refine ⟨us, hL2, big (by omega), Same.upN (Same.trans s9 (Same.trans (Same.new nt1) (Same.new nt2))) nL, us ++ [.ref t2], upd_same, ?_⟩
          rw [et, List.filter_append, List.map_append]
          have e0 : List.filter (fun q : List Int × Row => isImp q.2) [(pp, r)] = [(pp, r)] := by
            rw [List.filter_cons_of_pos (p := fun q : List Int × Row => isImp q.2) (a := (pp, r)) himp]; rfl
          rw [e0]
          have tL : ∀ b xs, (upd (upd H10 t1 (.tup loadPick)) t2 (.tup [.str z, pv])) b = some (.tup xs) → (upd (upd (upd H10 t1 (.tup loadPick)) t2 (.tup [.str z, pv])) L (.lst (us ++ [.ref t2]))) b = some (.tup xs) := fun b xs e => by
            rw [upd_ne (fun q => by rw [q, hL2] at e; cases e)]; exact e
          refine paired_app ?_ (paired_imp hus1 fun v q h => h.to fun b xs e => tL _ _ (Same.new nt2 _ _ e))
          exact SpotAt.to (H := upd (upd H10 t1 (.tup loadPick)) t2 (.tup [.str z, pv])) ⟨t2, pv, rfl, upd_same, hpv10.to fun b xs e => Same.new nt2 _ _ (Same.new nt1 _ _ e)⟩ tL
      · rintro H9 ⟨s9, us, hL, hus⟩
        rw [lws, List.take_length] at hus
        have hsl9 := s9 _ _ hsl8
        have s79 : Same H7 H9 := Same.trans s78 s9
        have lus : us.length ≤ 2710680 := by
          rw [paired_len hus, List.length_map]
          exact Nat.le_trans (List.length_filter_le _ _) lwl
        have lzs : zs.length ≤ 4 * 2710680 := by
          rw [paired_len hz6]
          have h1 : ((lib2.take i).flatMap spotsM).length ≤ (lib2.take i).length * 2710680 := flat_len fun m hm' => by
            have hm2 := List.mem_of_mem_take hm'
            unfold spotsM
            rw [List.length_map]
            refine Nat.le_trans (List.length_filter_le _ _) ?_
            have := walkL_len (lr2.len _ hm2) (lr2.rows _ hm2) []
            have c3 : cW 3 = 112945 := by decide
            omega
          have h2 : (lib2.take i).length ≤ 4 := by rw [List.length_take]; have := lr2.few; omega
          exact Nat.le_trans h1 (Nat.mul_le_mul_right 2710680 h2)
        refine ⟨sl, L, zs, us, rfl, rfl, hsl9, hL, Nat.le_of_lt (Nat.lt_of_le_of_lt (show zs.length + us.length ≤ 15000000 by omega) (by decide)), ?_⟩
        have tS : ∀ b xs, H9 b = some (.tup xs) → (upd H9 sl (.lst (zs ++ us))) b = some (.tup xs) := fun b xs e => by
          rw [upd_ne (fun q => by rw [q, hsl9] at e; cases e)]; exact e
        have et : lib2.take (i + 1) = lib2.take i ++ [(z, rs)] := by rw [List.take_add_one, hm]; rfl
        refine ⟨(fr6.trans (Fr.same s79)).upN nslH, by rw [upd_ne slx.symm]; exact s79 _ _ hx6, by rw [upd_ne slD.symm]; exact s79 _ _ hD6, hl6.to fun y kd ws k e => ⟨k, by rw [upd_ne k.2.2]; exact s79 _ _ e⟩, ⟨_, _, _, _, rfl⟩, zs ++ us, upd_same, ?_⟩
        rw [et, List.flatMap_append]
        refine paired_cat (paired_imp hz6 fun v q h => h.to fun b xs e => tS _ _ (s79 _ _ e)) ?_
        rw [List.flatMap_cons, List.flatMap_nil, List.append_nil]
        exact paired_imp hus fun v q h => h.to tS
    · rintro σ H6 ⟨fr6, hx6, hD6, hl6, ⟨v2, v3, v4, v5, rfl⟩, zs, hs6, hz6⟩
      rw [lkv, List.take_length] at hz6
      refine ⟨hD6, ?_⟩
      have slD' : sl ≠ D := slD
      refine q _ D sl lib2 (fr6.upN nDH) ⟨by rw [upd_ne Dx.symm]; exact hx6, ⟨kvs2, upd_same, hl6.to fun y kd ws k e => ⟨k.1, by rw [upd_ne k.2.1]; exact e⟩⟩, ⟨zs, by rw [upd_ne slD']; exact hs6, paired_imp hz6 fun v q h => h.to fun b xs e => by
        rw [upd_ne (fun z => by rw [z, hD6] at e; cases e)]; exact e⟩⟩ p2 (by rw [e2]; exact hsort) nDH nslH
end
end Ft
set_option Elab.async false
set_option linter.all false
set_option maxRecDepth 100000
set_option maxHeartbeats 4000000
namespace Ft
open PySem L2 PySem.W
theorem each_of : ∀ {bs : List (V × PyData)} {us : List Value}, Vals (bs.map (·.1)) us → EachIs (fun (u : Value) (b : V × PyData) => RelV b.1 u) us bs
  | [], [], _ => .nil
  | [], _ :: _, h => by cases h
  | _ :: _, [], h => by cases h
  | b :: bs, u :: us, h => by
    cases h with
    | cons r t => exact .cons r (each_of t)
theorem of_each : ∀ {bs : List (V × PyData)} {us : List Value}, EachIs (fun (u : Value) (b : V × PyData) => RelV b.1 u) us bs → Vals (bs.map (·.1)) us
  | _, _, .nil => .nil
  | _, _, .cons r t => .cons r (of_each t)
def rSortedDD (K : Frag) : List V → Hp → VK → Prop := fun vs H Q => ∃ (a : Addr) (bs : List (V × PyData)), vs = [.ref a] ∧ SqL K H a (bs.map (·.1)) ∧ (∀ b ∈ bs, Dp K H b.1 b.2) ∧ AllAlike (bs.map (·.2)) ∧ Sortable (bs.map (·.2)) ∧ (∀ b ∈ bs, b.2.depth ≤ 60) ∧
  ∀ p, H p = none → Q (.ref p) (upd H p (.lst ((bs.mergeSort (dataLe false fun b : V × PyData => b.2)).map (·.1))))
theorem cr_sortedDD {X : Cx} (hu : X.A.units + 64 < cLine) : CallR X (.builtin "sorted") (rSortedDD X.K) := by
  intro pins s σ H vs us Q I r h
  obtain ⟨a, bs, rfl, hs, hd, hal, hso, hdp, q⟩ := h
  obtain ⟨its, rv, hl, hz⟩ := I.list hs
  rw [Vals.ref1 r]
  have e := each_of rv
  have er : EachIs (fun (v : Value) (b : V × PyData) => ∃ as, PySem.Reads s.heap v b.2 as) its bs := by
    have go : ∀ {bs : List (V × PyData)} {us : List Value}, (∀ b ∈ bs, Dp X.K H b.1 b.2) → EachIs (fun (u : Value) (b : V × PyData) => RelV b.1 u) us bs → EachIs (fun (v : Value) (b : V × PyData) => ∃ as, PySem.Reads s.heap v b.2 as) us bs := by
      intro bs us hd h
      induction h with
      | nil => exact .nil
      | cons r _ ih => exact .cons (Dp.reads I _ _ _ (hd _ (by simp)) r) (ih fun b hb => hd b (by simp [hb]))
    exact go hd e
  rw [List.length_map] at hz
  refine sorted_data (R := fun (u : Value) (b : V × PyData) => RelV b.1 u) (enc := fun b : V × PyData => b.2) hl.isList e er hal hso hz (fun b hb => by have := hdp b hb; omega) fun out hlen ho => ?_
  obtain ⟨ep, he'⟩ := PyProof.Rows.sortedAll_at s.heap its out.toArray
  have hv := of_each ho
  have hlen2 : ((bs.mergeSort (dataLe false fun b : V × PyData => b.2)).map (·.1)).length ≤ sizeLine := by
    rw [List.length_map, List.length_mergeSort]; exact hz
  exact ⟨.ref _, upd H (s.heap.objs.size + 1) (.lst ((bs.mergeSort (dataLe false fun b : V × PyData => b.2)).map (·.1))), I.laid (t' := s.toks) (fun _ _ => PyProof.Rows.sortedAll_old) (Nat.le_succ _) ⟨hlen2, out, ep, hv, he'⟩, rfl, q _ (I.hok.fresh (Nat.le_succ _))⟩
/-- two arrangements in order of one list, one of them strictly, are the same -/
theorem sorted_eq {α : Type} {lt : α → α → Prop} : ∀ {l m : List α}, l.Perm m → l.Pairwise (fun a b => ¬ lt b a) → m.Pairwise lt → l = m
  | [], m, h, _, _ => (List.Perm.nil_eq h)
  | y :: l, [], h, _, _ => by cases h.length_eq
  | y :: l, x :: m, h, hl, hm => by
    rw [List.pairwise_cons] at hl hm
    have e : y = x := by
      have hy : y ∈ x :: m := h.mem_iff.mp (by simp)
      have hx : x ∈ y :: l := h.mem_iff.mpr (by simp)
      rcases List.mem_cons.mp hy with e | hy
      · exact e
      · rcases List.mem_cons.mp hx with e | hx
        · exact e.symm
        · exact absurd (hm.1 y hy) (hl.1 x hx)
    subst e
    rw [sorted_eq ((List.perm_cons y).mp h) hl.2 hm.2]
end Ft
set_option Elab.async false
set_option linter.all false
set_option maxRecDepth 100000
set_option maxHeartbeats 4000000
namespace Ft
open PySem PySem.Spec L2 PySem.W PyProof.Rows
abbrev Tk := Int ⊕ List Nat
def pTok (p : List Int) : List Tk := keyToksAll (p.map PyData.int)
def PLt (p q : List Int) : Prop := lexLt itemOrd (pTok p ++ [.inl 0]) (pTok q ++ [.inl 0]) = true
theorem pTok_nil : pTok [] = [.inl 0] := by unfold pTok; rw [List.map_nil, keyToksAll]
theorem pTok_cons (k : Int) (t : List Int) : pTok (k :: t) = .inl 1 :: .inl k :: pTok t := by
  unfold pTok
  rw [List.map_cons, keyToksAll, keyToks]
  rfl
theorem PLt.pre : ∀ (a : List Int) {p q : List Int}, PLt p q → PLt (a ++ p) (a ++ q)
  | [], _, _, h => h
  | k :: a, p, q, h => by
    have ih := PLt.pre a h
    unfold PLt at ih ⊢
    rw [List.cons_append, List.cons_append, pTok_cons, pTok_cons]
    show lexLt itemOrd (.inl 1 :: .inl k :: (pTok (a ++ p) ++ [.inl 0])) (.inl 1 :: .inl k :: (pTok (a ++ q) ++ [.inl 0])) = true
    rw [lex_self (O := itemOrd), lex_self (O := itemOrd)]
    exact ih
theorem PLt.head {k l : Int} (h : k < l) (t u : List Int) : PLt (k :: t) (l :: u) := by
  unfold PLt
  rw [pTok_cons, pTok_cons]
  show lexLt itemOrd (.inl 1 :: .inl k :: (pTok t ++ [.inl 0])) (.inl 1 :: .inl l :: (pTok u ++ [.inl 0])) = true
  rw [lex_self (O := itemOrd), lex_diff (O := itemOrd) (fun e => by have := Sum.inl.inj e; omega)]
  exact decide_eq_true h
theorem PLt.nil (k : Int) (t : List Int) : PLt [] (k :: t) := by
  unfold PLt
  rw [pTok_cons, pTok_nil]
  show lexLt itemOrd (.inl 0 :: [.inl 0]) (.inl 1 :: .inl k :: (pTok t ++ [.inl 0])) = true
  rw [lex_diff (O := itemOrd) (fun e => by have := Sum.inl.inj e; omega)]
  exact decide_eq_true (by decide : (0 : Int) < 1)
theorem zipIdx_rising {α : Type} (l : List α) : l.zipIdx.Pairwise (fun a b => a.2 < b.2) := by
  rw [List.pairwise_iff_getElem]
  intro i j hi hj hij
  rw [List.getElem_zipIdx, List.getElem_zipIdx]
  show 0 + i < 0 + j
  omega
def PW' (a b : List Int × Row) : Prop := PLt a.1 b.1
theorem rowW_order : ∀ (d : Nat) (path : List Int) (r : Row) (k : Nat), (rowW d path (r, k)).Pairwise PW' ∧ ∀ q ∈ rowW d path (r, k), ∃ t, q.1 = path ++ (k : Int) :: t := by
  intro d
  induction d with
  | zero =>
    intro path r k
    refine ⟨List.pairwise_singleton _ _, fun q hq => ?_⟩
    rw [List.mem_singleton.mp hq]
    exact ⟨[], rfl⟩
  | succ d ih =>
    intro path r k
    -- rows of a block
    have blk : ∀ (path : List Int) (b : List Row), (b.zipIdx.flatMap (rowW d path)).Pairwise PW' ∧ ∀ q ∈ b.zipIdx.flatMap (rowW d path), ∃ (j : Int) (t : List Int), q.1 = path ++ j :: t := by
      intro path b
      refine ⟨List.pairwise_flatMap.mpr ⟨fun p _ => (ih path p.1 p.2).1, (zipIdx_rising b).imp fun {p p'} hlt x hx y hy => ?_⟩, fun q hq => ?_⟩
      · obtain ⟨t, e⟩ := (ih path p.1 p.2).2 x hx
        obtain ⟨t', e'⟩ := (ih path p'.1 p'.2).2 y hy
        show PLt x.1 y.1
        rw [e, e']
        exact PLt.pre path (PLt.head (by omega) _ _)
      · obtain ⟨p, hp, hq⟩ := List.mem_flatMap.mp hq
        obtain ⟨t, e⟩ := (ih path p.1 p.2).2 q hq
        exact ⟨_, t, e⟩
    have mem : ∀ q ∈ (blocks r).zipIdx.flatMap (fun q => q.1.zipIdx.flatMap (rowW d (path ++ [(k : Int), (q.2 : Int)]))), ∃ (j : Int) (t : List Int), q.1 = path ++ (k : Int) :: j :: t := by
      intro q hq
      obtain ⟨p, hp, hq⟩ := List.mem_flatMap.mp hq
      obtain ⟨j, t, e⟩ := (blk _ _).2 q hq
      exact ⟨p.2, j :: t, by rw [e, List.append_assoc]; rfl⟩
    refine ⟨?_, fun q hq => ?_⟩
    · show ((path ++ [(k : Int)], r) :: _).Pairwise PW'
      rw [List.pairwise_cons]
      refine ⟨fun q hq => ?_, List.pairwise_flatMap.mpr ⟨fun p _ => (blk _ _).1, (zipIdx_rising (blocks r)).imp fun {p p'} hlt x hx y hy => ?_⟩⟩
      · obtain ⟨j, t, e⟩ := mem q hq
        show PLt (path ++ [(k : Int)]) q.1
        rw [e, show path ++ (k : Int) :: j :: t = (path ++ [(k : Int)]) ++ j :: t by rw [List.append_assoc]; rfl]
        have := PLt.pre (path ++ [(k : Int)]) (PLt.nil j t)
        rw [List.append_nil] at this
        exact this
      · obtain ⟨j, t, e⟩ := (blk _ _).2 x hx
        obtain ⟨j', t', e'⟩ := (blk _ _).2 y hy
        show PLt x.1 y.1
        rw [e, e', show path ++ [(k : Int), (p.2 : Int)] ++ j :: t = (path ++ [(k : Int)]) ++ ((p.2 : Int) :: j :: t) by rw [List.append_assoc, List.append_assoc]; rfl,
          show path ++ [(k : Int), (p'.2 : Int)] ++ j' :: t' = (path ++ [(k : Int)]) ++ ((p'.2 : Int) :: j' :: t') by rw [List.append_assoc, List.append_assoc]; rfl]
        exact PLt.pre _ (PLt.head (by omega) _ _)
    · have hq' : q ∈ (path ++ [(k : Int)], r) :: (blocks r).zipIdx.flatMap (fun q => q.1.zipIdx.flatMap (rowW d (path ++ [(k : Int), (q.2 : Int)]))) := hq
      rcases List.mem_cons.mp hq' with e | hq'
      · rw [e]; exact ⟨[], rfl⟩
      · obtain ⟨j, t, e⟩ := mem q hq'
        exact ⟨j :: t, e⟩
theorem walkL_order (d : Nat) (path : List Int) (rs : List Row) : (walkL d path rs).Pairwise PW' := by
  refine List.pairwise_flatMap.mpr ⟨fun p _ => (rowW_order d path p.1 p.2).1, (zipIdx_rising rs).imp fun {p p'} hlt x hx y hy => ?_⟩
  obtain ⟨t, e⟩ := (rowW_order d path p.1 p.2).2 x hx
  obtain ⟨t', e'⟩ := (rowW_order d path p'.1 p'.2).2 y hy
  show PLt x.1 y.1
  rw [e, e']
  exact PLt.pre path (PLt.head (by omega) _ _)
/-- a place as data -/
def spotD (q : Str × List Int) : PyData := .tuple [.str q.1, .tuple (q.2.map PyData.int)]
def SLt (a b : Str × List Int) : Prop := dataLt (spotD a) (spotD b) = true
theorem spot_toks (q : Str × List Int) : keyToks (spotD q) = .inl 1 :: .inr q.1.cps.toList :: .inl 1 :: (pTok q.2 ++ [.inl 0]) := by
  unfold spotD pTok
  rw [keyToks, keyToksAll, keyToks, keyToksAll, keyToks, keyToksAll]
  rfl
theorem SLt.path {z : Str} {p q : List Int} (h : PLt p q) : SLt (z, p) (z, q) := by
  unfold SLt dataLt
  rw [spot_toks, spot_toks, lex_self (O := itemOrd), lex_self (O := itemOrd), lex_self (O := itemOrd)]
  exact h
theorem SLt.word {z y : Str} (h : z.cps.toList < y.cps.toList) (p q : List Int) : SLt (z, p) (y, q) := by
  unfold SLt dataLt
  rw [spot_toks, spot_toks, lex_self (O := itemOrd), lex_diff (O := itemOrd) (fun e => by
    have e' : z.cps.toList = y.cps.toList := Sum.inr.inj e
    rw [e'] at h
    exact List.lt_irrefl _ h)]
  exact decide_eq_true h
theorem sortedS_strict {zs : List Str} (h : sortedS zs = true) (nd : zs.Nodup) : zs.Pairwise (fun a b => a.cps.toList < b.cps.toList) := by
  have lt_of : ∀ {a b : Str}, ltCps b.cps.toList a.cps.toList = false → a ≠ b → a.cps.toList < b.cps.toList := fun {a b} h ne => by
    rw [ltCps_eq] at h
    have h1 : ¬ b.cps.toList < a.cps.toList := of_decide_eq_false h
    cases e : decide (a.cps.toList < b.cps.toList) with
    | true => exact of_decide_eq_true e
    | false => exact absurd (str_of_cps (strKind.total _ _ e (decide_eq_false h1))) ne
  have go : ∀ (zs : List Str) (p : Str), risingS p zs = true → (p :: zs).Nodup → (p :: zs).Pairwise (fun a b => a.cps.toList < b.cps.toList) := by
    intro zs
    induction zs with
    | nil => intro p _ _; exact List.pairwise_singleton _ _
    | cons x r ih =>
      intro p h nd
      unfold risingS at h
      rw [Bool.and_eq_true] at h
      rw [List.nodup_cons] at nd
      have px : p.cps.toList < x.cps.toList := lt_of (by simpa using h.1) (fun e => nd.1 (by rw [e]; simp))
      have hr := ih x h.2 nd.2
      rw [List.pairwise_cons] at hr ⊢
      refine ⟨fun y hy => ?_, List.pairwise_cons.mpr hr⟩
      rcases List.mem_cons.mp hy with e | hy
      · rw [e]; exact px
      · exact List.lt_trans px (hr.1 y hy)
  cases zs with
  | nil => exact .nil
  | cons x r => exact go r x h nd
theorem spotsL_order {lib : Lib} (hs : sortedS (lib.map (·.1)) = true) (nd : (lib.map (·.1)).Nodup) : (spotsL lib).Pairwise SLt := by
  have h := sortedS_strict hs nd
  rw [List.pairwise_map] at h
  refine List.pairwise_flatMap.mpr ⟨fun m _ => ?_, h.imp fun {m m'} hlt x hx y hy => ?_⟩
  · unfold spotsM
    rw [List.pairwise_map]
    exact ((walkL_order 3 [] m.2).filter _).imp fun {a b} hab => SLt.path hab
  · unfold spotsM at hx hy
    obtain ⟨a, _, e⟩ := List.mem_map.mp hx
    obtain ⟨b, _, e'⟩ := List.mem_map.mp hy
    rw [← e, ← e']
    exact SLt.word hlt _ _
theorem spotsL_perm {lib lib' : Lib} (h : lib.Perm lib') : (spotsL lib).Perm (spotsL lib') := List.Perm.flatMap_right spotsM h
end Ft
set_option Elab.async false
set_option linter.all false
set_option maxRecDepth 100000
set_option maxHeartbeats 4000000
namespace Ft
open PySem L2
structure OwnM (P : PySem.Program) (w : World) (K : PySem.W.Frag) (mg : Str → Option Value) (base : Heap) (k : Nat) (C : Addr) (m : Str) (ps : List Str) (sp : Sp) (f : Addr) (fd : FuncData) : Prop where
  c : Cls K C
  m : Meth K C m f
  F : FnOk P w K mg base CX0 k f fd ps sp
  b : Binds K fd ps []
structure OwnC (P : PySem.Program) (w : World) (K : PySem.W.Frag) (mg : Str → Option Value) (base : Heap) (k : Nat) (x : Str) (C : Addr) (ps : List Str) (sp : Sp) : Prop where
  ex : ∃ (f : Addr) (fd : FuncData), Mk K C f ∧ FnOk P w K mg base CX0 k f fd ps sp ∧ mg x = some (.ref C) ∧ Binds K fd ps []
section
variable {X : Cx}
theorem pe_new {e : Expr} {es : List Expr} {t : TA} {p pos : Pos} {k : Nat} {x : Str} {C : Addr} {ps : List Str} {sp : Sp} (G : OwnC X.prog X.w X.K X.mg X.base k x C ps sp) (hr : Room (k + 1) X.A) (hg : Gl X x) (ha : PA X (e :: es) t)
    (hdb : (x == ("__debug__" : Str)) = false := by decide) (he : starEach (e :: es) X.env = (false, eval e X.env) :: starEach es X.env := by rfl) (hpl : (backTo pos (starEach es X.env)).any (·.1) = false := by rfl) :
    PE X (.Call (.Name x p) (e :: es) [] pos) (tMake C sp [] E0 t) := by
  obtain ⟨f, fd, M, F, m, b⟩ := G.ex
  exact pe_make M F hr hg m b .nil pass0 ha hdb he hpl
end
end Ft
set_option Elab.async false
set_option linter.all false
set_option maxRecDepth 100000
set_option maxHeartbeats 4000000
namespace Ft
open PySem PySem.Spec PyProof.Rows L2
/-- as Fun.okX, where a fault's context is told to be None -/
theorem okN {P : PySem.Program} {w : World} {K : PySem.W.Frag} {mg : Str → Option Value} {base : Heap} {x qual : Str} {st : Stmt} {f : Addr} {fd : FuncData} {N ps : List Str} {k : Nat} {sp : Sp} (F : Fun K x qual st f fd) (S : FnScope N ps (defScope st)) (len : ∀ vs H Q E, sp vs H Q E → vs.length = ps.length)
    (hbody : ∀ (cdv : Value) (A : Around) (outer : List Env) (s : Shared) (H : Hp) (vs : List V) (Q : VK) (E : XK), Room k (A.deeper (envOfC qual (defScope st) s.heap.objs.size f cdv)) → sp vs H Q E →
      ∃ t, PSs (cxOf (L2N.CX P w) P w K mg base N qual (defScope st) f cdv A outer s H E) (defBody st) t ∧ t { nx := fun _ H' => Q .non H', rt := Q } (start N vs) H) : FnOk P w K mg base (L2N.CX P w) (k + 1) f fd ps sp := by
  obtain ⟨oc, od, kV, doc, pm, an, cdv, ct, osl, rfl, lk, hcd⟩ := F.ex
  exact fn_of lk hcd S len fun A outer s H vs Q E hr hsp => hbody cdv A outer s H vs Q E hr hsp
/-- an exception of an own class with an __init__ of its own, its context None -/
theorem pmk_oexN {X : Cx} {x : Str} {e : Expr} {es : List Expr} {ta : TA} {p pos : Pos} {C fI : Addr} {k : Nat} {fd : FuncData} {ps : List Str} {sp : Sp} {ds : List Value} {dvs : List V} (T : OexC X.K C) (iC : PySem.W.findIn X.K (.ref C) "__init__" = some (some (.ref fI))) (tI : PySem.W.typeIn X.K (.ref fI) = some (.type "function"))
    (F1 : FnOk X.prog X.w X.K X.mg X.base CX0 k fI fd ps sp) (hr : Room (k + 1) X.A) (hb : Binds X.K fd ps ds) (hd : Vals dvs ds) (hg : Gl X x) (hm : X.mg x = some (.ref C)) (ha : PA X (e :: es) ta)
    (hdb : (x == ("__debug__" : Str)) = false := by decide) (he : starEach (e :: es) X.env = (false, eval e X.env) :: starEach es X.env := by rfl) (hpl : (backTo pos (starEach es X.env)).any (·.1) = false := by rfl) :
    L2N.PMk X (.Call (.Name x p) (e :: es) [] pos) (tMkO C sp dvs ta) := by
  intro pins s σ H Q I h
  obtain ⟨nm, q, N, bs, bm, sn, sub, ab, col, dd, k0, k1, k2, k3, k5, hC, hbm⟩ := T.cls
  refine wpAny_Call_Name_kw (ld_glob I hg hm ?_ hdb)
  refine PySem.W.callWith_K (h₀ := X.base) I.ok.mod.kin T.kC (thn (ha.run pos pins s σ H _ I h) fun us s1 ⟨vs, H1, I1, r1, hz, q1⟩ => ⟨I1.kIn, ?_⟩) he hpl
  show wpAny _ _ (call (.ref C) us) _ _ _
  obtain ⟨hp, g, dr, tk, os⟩ := s1
  have hsz : hp.objs.size ≤ hp.objs.size + 1 := Nat.le_succ _
  have hn : H1 (hp.objs.size + 1) = none := I1.hok.fresh hsz
  have hq := q1 (hp.objs.size + 1) hn
  have kk : ∀ b o, hp.get? b = some o → ((hp.push (PySem.W.kdv_tup us)).push (PySem.HandSPX.excO C hp.objs.size)).get? b = some o := fun b o e => Heap.get?_push_of_some _ (Heap.get?_push_of_some _ e)
  have hget : ((hp.push (PySem.W.kdv_tup us)).push (PySem.HandSPX.excO C hp.objs.size)).get? (hp.objs.size + 1) = some (PySem.HandSPX.excO C hp.objs.size) := by heap_get
  have I2 : Inv X pins σ (upd H1 (hp.objs.size + 1) (exo (hp.objs.size + 1) C none)) ⟨(hp.push (PySem.W.kdv_tup us)).push (PySem.HandSPX.excO C hp.objs.size), g, dr, tk, os⟩ :=
    I1.laid (t' := tk) (a := hp.objs.size + 1) (o := exo (hp.objs.size + 1) C none) (h' := (hp.push (PySem.W.kdv_tup us)).push (PySem.HandSPX.excO C hp.objs.size)) kk hsz (exo_ok hget)
  have r2 : Vals (V.ref (hp.objs.size + 1) :: (vs ++ dvs)) (Value.ref (hp.objs.size + 1) :: (us ++ ds)) := .cons rfl (r1.append hd)
  have hl : (Value.ref (hp.objs.size + 1) :: us ++ ds).length = ps.length := by
    have e := r2.length
    rw [F1.len _ _ _ _ hq] at e
    exact e.symm
  have hus : us.length ≤ sizeLine := by
    rw [← Paired.length r1, sizeLine_eq]
    omega
  refine wpAny_call (PySem.HandSPX.call_own F.excBase_ValueError (fun Y => PySem.HandSPX.refsVE_contains Y bm hbm) (I1.kIn _ _ hC) (PySem.W.looks_findIn I1.kIn iC) (fun self => PySem.W.bind_fn I1.kIn self tI) hus
    (codeAny_mono (F1.run _ X.stack _ _ ⟨Value.ref (hp.objs.size + 1) :: us, []⟩ (Value.ref (hp.objs.size + 1) :: (us ++ ds)) _ _ (fun _ _ _ => False) (hr.make C us []) (I2.env0.make C us []) (hb _ (Value.ref (hp.objs.size + 1) :: us) I2.kIn hl) r2 hq) fun r s' hq' => ?_))
  cases r with
  | error er => exact pass0 pins σ _ _ er s' I2 hq'
  | ok fl =>
    cases fl with
    | ret u =>
      obtain ⟨v, H2, os2, bare2, un2, hok2, rv, ev, d, fs, ea, ed, hd1, q2⟩ := hq'
      subst ev
      obtain ⟨h2, g2, d2, t2, os'⟩ := s'
      obtain ⟨t0, G, J, kG, ge, hoe, na⟩ := mk_end0 (d2 := d2) (t2 := t2) I1 hsz kk un2 hok2 os2 bare2 ea ed hd1
      exact ⟨rv, ⟨_, _, _, ⟨G, g2, d2, t2, os'⟩, _, .ref C, some d, rfl, J, kG, ge, hoe, ⟨rfl, rfl, fun vs e => by cases e; rfl⟩, rfl, rfl, na, rfl, bare2, raises_own T.exC T.tyC, q2⟩⟩
    | next => exact False.elim hq'
    | brk => exact False.elim hq'
    | cont => exact False.elim hq'
/-- a method that keeps its promise, or raises as it says -/
structure OwnX (P : PySem.Program) (w : World) (K : PySem.W.Frag) (mg : Str → Option Value) (base : Heap) (k : Nat) (C : Addr) (m : Str) (ps : List Str) (sp : Sp) : Prop where
  ex : ∃ (f : Addr) (fd : FuncData), Cls K C ∧ Meth K C m f ∧ FnOk P w K mg base (L2N.CX P w) k f fd ps sp ∧ Binds K fd ps []
theorem OwnX.mono {P : PySem.Program} {w : World} {K : PySem.W.Frag} {mg : Str → Option Value} {base : Heap} {j k : Nat} {C : Addr} {m : Str} {ps : List Str} {sp : Sp} (G : OwnX P w K mg base j C m ps sp) (h : j ≤ k) : OwnX P w K mg base k C m ps sp := by
  obtain ⟨f, fd, c, hm, F, b⟩ := G.ex
  exact ⟨f, fd, c, hm, F.mono h, b⟩
section
variable {X : Cx} {K : PySem.W.Frag} {o e : Expr} {es : List Expr} {to ta : TE} {t : TA} {f name : Str} {pos apos cpos : Pos} {T id : String} {r : V → List V → Hp → VK → Prop}
def rLenS (K : PySem.W.Frag) : List V → Hp → VK → Prop := fun xs H Q => ∃ p ys, xs = [.ref p] ∧ (SqL K H p ys ∨ SqT K H p ys) ∧ Q (.int ys.length) H
end
end Ft
set_option Elab.async false
set_option linter.all false
set_option maxRecDepth 100000
set_option maxHeartbeats 4000000
namespace Ft
open PySem PySem.Spec PyProof.Rows L2
def eqs (k : Str) (v : Value) : Bool := match v with
  | .str x _ => x.cps.toList == k.cps.toList
  | _ => false
end Ft
set_option Elab.async false
set_option linter.all false
set_option maxRecDepth 100000
set_option maxHeartbeats 4000000
namespace Ft
open PySem PySem.Spec PyProof.Rows L2
abbrev Pl := Str × List Int
def nkP (p : Pl) : NestedKey := .tup [.text p.1, .tup (p.2.map NestedKey.num)]
def PlAt (H : Hp) (t : Addr) (p : Pl) : Prop := ∃ q, H t = some (.tup [.str p.1, .ref q]) ∧ H q = some (.tup (p.2.map V.int))
theorem PlAt.to {H H' : Hp} {t : Addr} {p : Pl} (h : PlAt H t p) (f : ∀ b xs, H b = some (.tup xs) → H' b = some (.tup xs)) : PlAt H' t p := by
  obtain ⟨q, h1, h2⟩ := h
  exact ⟨q, f _ _ h1, f _ _ h2⟩
def spX (xs : List (Pl × Addr)) : List (NestedKey × Addr × Value) := xs.map fun x => (nkP x.1, x.2, .bool true)
/-- at a stands the dict of the places xs, each told by its own tuple, all True -/
def SpO (P : PySem.Program) (w : World) (a : Addr) (xs : List (Pl × Addr)) : HO := .ext fun h => ∃ o es ep, h.get? a = some o ∧ o.ExactDict ∧ o.data = .dict es ep ∧ es.toList = (spX xs).map (entryOfKey (nestedKind P w))
structure SpAt (P : PySem.Program) (w : World) (H : Hp) (a : Addr) (xs : List (Pl × Addr)) : Prop where
  at_ : H a = some (SpO P w a xs)
  nm : (a == sysModules) = false
  pl : ∀ x ∈ xs, PlAt H x.2 x.1
  nd : (xs.map (·.1)).Nodup
theorem SpAt.to {P : PySem.Program} {w : World} {H H' : Hp} {a : Addr} {xs : List (Pl × Addr)} (h : SpAt P w H a xs) (f : ∀ b xs, H b = some (.tup xs) → H' b = some (.tup xs)) (e : H' a = H a) : SpAt P w H' a xs := ⟨e.trans h.at_, h.nm, fun x hx => (h.pl x hx).to f, h.nd⟩
end Ft
set_option Elab.async false
set_option linter.all false
set_option maxRecDepth 100000
set_option maxHeartbeats 4000000
namespace Ft
open PySem L2
mutual
def noB : DT → Bool
  | .at (.int _) => true
  | .at (.str _) => true
  | .at .non => true
  | .at _ => false
  | .sq _ ts => noBs ts
def noBs : List DT → Bool
  | [] => true
  | t :: ts => noB t && noBs ts
end
mutual
theorem eqv_inj : ∀ (s t : DT), noB s = true → noB t = true → PyData.eqv (dtD s) (dtD t) = true → s = t
  | .at v, .at u, h1, h2, h => by
    cases v <;> simp only [noB] at h1 <;> first | (cases h1; done) | skip
    all_goals (cases u <;> simp only [noB] at h2 <;> first | (cases h2; done) | skip)
    all_goals (simp only [dtD, aD, PyData.eqv] at h)
    all_goals first | rfl | (cases h; done) | (have := of_decide_eq_true h; rw [this]) | (have := eq_of_beq h; rw [this])
  | .at v, .sq k ts, h1, h2, h => by
    cases v <;> simp only [noB] at h1 <;> first | (cases h1; done) | skip
    all_goals (cases k <;> simp [dtD, aD, PyData.eqv] at h)
  | .sq k ts, .at u, h1, h2, h => by
    cases u <;> simp only [noB] at h2 <;> first | (cases h2; done) | skip
    all_goals (cases k <;> simp [dtD, aD, PyData.eqv] at h)
  | .sq k ts, .sq l us, h1, h2, h => by
    cases k <;> cases l <;> simp only [dtD, PyData.eqv] at h
    · rw [eqvs_inj ts us h1 h2 h]
    · cases h
    · cases h
    · rw [eqvs_inj ts us h1 h2 h]
theorem eqvs_inj : ∀ (ts us : List DT), noBs ts = true → noBs us = true → PyData.eqvAll (dtDs ts) (dtDs us) = true → ts = us
  | [], [], _, _, _ => rfl
  | [], u :: us, _, _, h => by simp [dtDs, PyData.eqvAll] at h
  | t :: ts, [], _, _, h => by simp [dtDs, PyData.eqvAll] at h
  | t :: ts, u :: us, h1, h2, h => by
    rw [dtDs, dtDs, PyData.eqvAll, Bool.and_eq_true] at h
    rw [noBs, Bool.and_eq_true] at h1 h2
    rw [eqv_inj t u h1.1 h2.1 h.1, eqvs_inj ts us h1.2 h2.2 h.2]
end
theorem eqv_dec {α : Type} [DecidableEq α] {f : α → DT} (fi : ∀ a b, f a = f b → a = b) (fn : ∀ a, noB (f a) = true) (p q : α) : PyData.eqv (dtD (f p)) (dtD (f q)) = decide (p = q) := by
  by_cases e : p = q
  · rw [e, eqv_dt, decide_eq_true rfl]
  · rw [decide_eq_false e]
    cases h : PyData.eqv (dtD (f p)) (dtD (f q)) with
    | false => rfl
    | true => exact (e (fi _ _ (eqv_inj _ _ (fn _) (fn _) h))).elim
theorem any_dtI {α : Type} [DecidableEq α] {f : α → DT} (fi : ∀ a b, f a = f b → a = b) (fn : ∀ a, noB (f a) = true) : ∀ (ps : List α) (q : α), ((dtDs (ps.map f)).any fun y => PyData.eqv y (dtD (f q))) = decide (q ∈ ps)
  | [], q => by simp [dtDs]
  | p :: ps, q => by
    show (PyData.eqv (dtD (f p)) (dtD (f q)) || (dtDs (ps.map f)).any fun y => PyData.eqv y (dtD (f q))) = _
    rw [any_dtI fi fn ps q, eqv_dec fi fn]
    by_cases e : p = q
    · simp [e]
    · have : ¬ q = p := fun z => e z.symm
      simp [e, this]
theorem dec_eq {p : Prop} (i j : Decidable p) : @decide p i = @decide p j := by
  cases i <;> cases j <;> first | rfl | contradiction
def plDT (p : Pl) : DT := .sq false [.at (.str p.1), .sq false (p.2.map fun i => .at (.int i))]
theorem ints_noB : ∀ p : List Int, noBs (p.map fun i => DT.at (.int i)) = true
  | [] => rfl
  | i :: p => by
    show (true && noBs (p.map fun i => DT.at (.int i))) = true
    rw [ints_noB p]; rfl
theorem ints_inj : ∀ {p q : List Int}, (p.map fun i => DT.at (.int i)) = (q.map fun i => DT.at (.int i)) → p = q
  | [], [], _ => rfl
  | i :: p, j :: q, h => by
    simp only [List.map_cons, List.cons.injEq] at h
    rw [ints_inj h.2]
    have e := h.1
    injection e with e
    injection e with e
    rw [e]
theorem plDT_inj : ∀ a b : Pl, plDT a = plDT b → a = b := fun a b h => by
  obtain ⟨a1, a2⟩ := a
  obtain ⟨b1, b2⟩ := b
  unfold plDT at h
  injection h with _ h
  simp only [List.cons.injEq] at h
  obtain ⟨h1, h2, _⟩ := h
  injection h1 with h1
  injection h1 with h1
  injection h2 with _ h2
  rw [h1, ints_inj h2]
theorem plDT_noB (p : Pl) : noB (plDT p) = true := by
  show (true && (noBs (p.2.map fun i => DT.at (.int i)) && true)) = true
  rw [ints_noB]; rfl
theorem ints_dt {H : Hp} (p : List Int) : Paired (DtAt H 0) (p.map V.int) (p.map fun i => DT.at (.int i)) := by
  induction p with
  | nil => exact .nil
  | cons i p ih => exact .cons ⟨rfl, rfl⟩ ih
theorem pl_dt {H : Hp} {t : Addr} {p : Pl} (h : PlAt H t p) (hl : p.2.length ≤ 1000000) : DtAt H 2 (.ref t) (plDT p) := by
  obtain ⟨q, ht, hp⟩ := h
  exact ⟨t, _, rfl, ht, by simp, .cons ⟨rfl, rfl⟩ (.cons ⟨q, _, rfl, hp, by have := hl; simp; omega, ints_dt _⟩ .nil)⟩
theorem plsP_dt {H : Hp} : ∀ {ps : List Addr} {pls : List Pl}, Paired (PlAt H) ps pls → (∀ p ∈ pls, p.2.length ≤ 1000000) → Paired (DtAt H 2) (ps.map V.ref) (pls.map plDT)
  | [], [], .nil, _ => .nil
  | t :: ps, p :: pls, .cons h t2, hl => .cons (pl_dt h (hl p (by simp))) (plsP_dt t2 fun q hq => hl q (List.mem_cons_of_mem _ hq))
theorem ints_dtOk0 : ∀ p : List Int, dtOks (p.map fun i => DT.at (.int i)) = true
  | [] => rfl
  | i :: p => by
    show (dtOk (.at (.int i)) && dtOks (p.map fun i => DT.at (.int i))) = true
    rw [ints_dtOk0 p]; rfl
theorem pl_dtOk {p : Pl} (h : PyData.strOk p.1 = true) : dtOk (plDT p) = true := by
  show (dtOk (.at (.str p.1)) && (dtOks (p.2.map fun i => DT.at (.int i)) && true)) = true
  rw [ints_dtOk0, show dtOk (.at (.str p.1)) = true from h]; rfl
theorem pls_dtOk : ∀ {pls : List Pl}, (∀ p ∈ pls, PyData.strOk p.1 = true) → dtOks (pls.map plDT) = true
  | [], _ => rfl
  | p :: pls, h => by
    show (dtOk (plDT p) && dtOks (pls.map plDT)) = true
    rw [pls_dtOk fun q hq => h q (List.mem_cons_of_mem _ hq), pl_dtOk (h p (by simp))]; rfl
theorem pls_dt {H : Hp} {a : Addr} {ps : List Addr} {pls : List Pl} (h : H a = some (.lst (ps.map V.ref))) (hp : Paired (PlAt H) ps pls) (hl : pls.length ≤ 1000000) (hs : ∀ p ∈ pls, p.2.length ≤ 1000000) : DtAt H 3 (.ref a) (.sq true (pls.map plDT)) :=
  ⟨a, _, rfl, h, by rw [List.length_map]; omega, plsP_dt hp hs⟩
/-- a pair in a list of places -/
theorem notIn_pls {K : PySem.W.Frag} {H : Hp} {a t : Addr} {ps : List Addr} {pls : List Pl} {q : Pl} (h : H a = some (.lst (ps.map V.ref))) (hp : Paired (PlAt H) ps pls) (hl : pls.length ≤ 1000000) (hs : ∀ p ∈ pls, p.2.length ≤ 1000000) (ho : ∀ p ∈ pls, PyData.strOk p.1 = true) (ht : PlAt H t q) (hq : PyData.strOk q.1 = true) (hq2 : q.2.length ≤ 1000000) {Q : VK} (qq : Q (.bl (!decide (q ∈ pls))) H) : rNotInD K (.ref t) (.ref a) H Q := by
  have d1 := pl_dt ht hq2
  have d2 := pls_dt h hp hl hs
  refine ⟨dtD (plDT q), dtDs (pls.map plDT), dp_dt _ _ _ d1, dp_dt _ _ _ d2, shaped_dt d1 (pl_dtOk hq) (by decide), shaped_dt d2 (show dtOks (pls.map plDT) = true from pls_dtOk ho) (by decide), ?_⟩
  have k : ((dtDs (pls.map plDT)).any fun y => PyData.eqv y (dtD (plDT q))) = decide (q ∈ pls) := by
    rw [any_dtI plDT_inj plDT_noB]
    exact dec_eq _ _
  rw [k]
  exact qq
theorem in_pls {K : PySem.W.Frag} {H : Hp} {a t : Addr} {ps : List Addr} {pls : List Pl} {q : Pl} (h : H a = some (.lst (ps.map V.ref))) (hp : Paired (PlAt H) ps pls) (hl : pls.length ≤ 1000000) (hs : ∀ p ∈ pls, p.2.length ≤ 1000000) (ho : ∀ p ∈ pls, PyData.strOk p.1 = true) (ht : PlAt H t q) (hq : PyData.strOk q.1 = true) (hq2 : q.2.length ≤ 1000000) {Q : VK} (qq : Q (.bl (decide (q ∈ pls))) H) : rInD K (.ref t) (.ref a) H Q := by
  have d1 := pl_dt ht hq2
  have d2 := pls_dt h hp hl hs
  refine ⟨dtD (plDT q), dtDs (pls.map plDT), dp_dt _ _ _ d1, dp_dt _ _ _ d2, shaped_dt d1 (pl_dtOk hq) (by decide), shaped_dt d2 (show dtOks (pls.map plDT) = true from pls_dtOk ho) (by decide), ?_⟩
  have k : ((dtDs (pls.map plDT)).any fun y => PyData.eqv y (dtD (plDT q))) = decide (q ∈ pls) := by
    rw [any_dtI plDT_inj plDT_noB]
    exact dec_eq _ _
  rw [k]
  exact qq
end Ft
set_option Elab.async false
set_option linter.all false
set_option maxRecDepth 100000
set_option maxHeartbeats 2000000
namespace Ft
open PySem PySem.Spec L2
/-- a clause: its class, the slot of its name, its suite's reading -/
structure Cls1 where
  c : Value
  i : Nat
  ts : Addr → Value → Option Addr → TS
/-- the ends of a suite, its name gone -/
def _root_.L2.Ends.drop (D : Ends) (i : Nat) : Ends := ⟨fun σ H => D.nx (σ.set i none) H, D.rt, fun σ H => D.bk (σ.set i none) H, fun σ H => D.ct (σ.set i none) H⟩
def wAsM (K : PySem.W.Frag) (Wo : WX) (D : Ends) : List Cls1 → WX
  | [], cls, d, σ, H => Wo cls d σ H
  | p :: r, cls, d, σ, H => (PySem.W.exmOne K cls p.c = some true ∧ ∀ a, H a = none → p.ts a cls d (D.drop p.i) (σ.set p.i (some (.ref a))) H) ∨ (PySem.W.exmOne K cls p.c = some false ∧ wAsM K Wo D r cls d σ H)
section
variable {X : Cx} {pins : List (Addr × Obj)} {σ : L2.St} {H : Hp} {s : Shared} {a : Addr} {cls : Value} {d : Option Addr} {B : Heap}
/-- an exception that has been caught: what holds of the state, and of the states that its notes lead to -/
structure Grd (X : Cx) (pins : List (Addr × Obj)) (σ : L2.St) (H : Hp) (a : Addr) (cls : Value) (d : Option Addr) (B : Heap) (s : Shared) : Prop where
  fly : HandSPX.FlyingZ B (X.env :: X.outer) a (Zc cls d) s.heap
  new : H a = none
  mv : ∀ g, HandSPX.FlyingZ B (X.env :: X.outer) a (Zc cls d) g → s.heap.UpToSlots g → Inv X pins σ H { s with heap := g }
  out : ∀ (W : WX) g, HandSPX.HeldZ B (X.env :: X.outer) a (Zc cls d) X.env.locals g → s.heap.UpToSlots g → W cls d σ H → XE X W (.ref a) { s with heap := g }
theorem Grd.at_ (G : Grd X pins σ H a cls d B s) : Inv X pins σ H s := G.mv _ G.fly (Heap.UpToSlots.refl _)
theorem Grd.to (G : Grd X pins σ H a cls d B s) {g : Heap} (f : HandSPX.FlyingZ B (X.env :: X.outer) a (Zc cls d) g) (u : s.heap.UpToSlots g) : Grd X pins σ H a cls d B { s with heap := g } :=
  ⟨f, G.new, fun g' f' u' => G.mv g' f' (u.trans u'), fun W g' f' u' => G.out W g' f' (u.trans u')⟩
/-- the context of a clause's suite -/
theorem Grd.suite (hf : X.env.frame = some X.env.locals) (G : Grd X pins σ H a cls d B s) :
    ∃ o, s.heap.get? a = some o ∧ Zc cls d o ∧ (∃ us, o.data = .fields us) ∧ Inv (X.suite a ((a, o) :: (X.pn ++ pins))) [] σ H s := by
  obtain ⟨o, us, g, z, h⟩ := G.fly.there
  have far : ∀ v ∈ X.env :: X.outer, v.frame ≠ some a := fun v hv e => by
    have := G.fly.2.2.1.mem (List.mem_filterMap.mpr ⟨v, hv, e⟩)
    rw [g] at this
    obtain ⟨_, _, h1, h2⟩ := this
    exact h2 us (by cases h1; exact h)
  exact ⟨o, g, z, ⟨us, h⟩, G.at_.suite g h G.new (fun e => far _ (List.mem_cons_self ..) (e ▸ hf)) fun m => match List.mem_filterMap.mp m with
    | ⟨v, hv, e⟩ => far v (List.mem_cons_of_mem _ hv) e⟩
/-- no clause took it -/
theorem Grd.pass {W : WX} {Q : Flow → Shared → Prop} (hf : X.env.frame = some X.env.locals) (tk : Takes X W) (G : Grd X pins σ H a cls d B s) (w : W cls d σ H) :
    wpAny (model X.prog X.w) X.A (handleBy (.ref a) X.env []) Q X.xe s := by
  have last : wpAny (model X.prog X.w) X.A (setFlight (.ref a) X.env.frame) (fun _ z => wpAny (model X.prog X.w) X.A (throw (.ref a) : Sem Flow) Q X.xe z) X.xe s :=
    hf ▸ HandSPX.setFlight_upZ G.fly fun g f u => wpAny_throw (tk _ _ (G.out W g f u w))
  obtain ⟨_, _, _, o, us, T, _, _, g1, _, g2, g3, _⟩ := G.fly
  refine wpAny_handleBy_nil ?_
  unfold PySem.passOn
  refine wpAny_bind (wpAny_field g1 g2 g3 ?_)
  rw [if_neg (by simp)]
  first
    | exact wpAny_bind (wpAny_pure (wpAny_bind last))
    | exact wpAny_bind last
/-- a suite ends as the try does, its name gone -/
theorem flow_drop {i : Nat} {n : Str} {pos : Pos} {D : Ends} {fl : Flow} {pn : List (Addr × Obj)} {q : Addr × Obj} {s1 : Shared} (ok : X.Ok) (hN : X.N.Nodup) (hi : X.N[i]? = some n) (hl : X.env.kindOf n = some .local)
    (h : SP (X.suite a (q :: (X.pn ++ pins))) pn (D.drop i) fl s1) : wpAny (model X.prog X.w) X.A (do bindName X.env n .none; unbindBehindTheSuite X.env n pos) (fun _ z => SP X pins D fl z) X.xe s1 := by
  cases fl with
  | ret u => exact match h with | ⟨v, σ2, H2, J, r, e⟩ => gone_ok (J.unsuite ok) hN hi hl fun z Jz => ⟨v, _, H2, Jz, r, e⟩
  | _ => exact match h with | ⟨σ2, H2, J, e⟩ => gone_ok (J.unsuite ok) hN hi hl fun z Jz => ⟨_, H2, Jz, e⟩
/-- one clause is asked -/
theorem Grd.ask {D : Ends} {x n : Str} {p : Cls1} {b₀ : Stmt} {su : List Stmt} {np pos : Pos} {hds : List ExceptHandler} {W : WX} (hf : X.env.frame = some X.env.locals) (hN : X.N.Nodup) (hi : X.N[p.i]? = some n) (hl : X.env.kindOf n = some .local) (hc : Names X x p.c)
    (hsu : ∀ (o : Obj) (pn : List (Addr × Obj)), Zc cls d o → (∃ us, o.data = .fields us) → PSs (X.suite a ((a, o) :: pn)) (b₀ :: su) (p.ts a cls d)) (G : Grd X pins σ H a cls d B s)
    (miss : W cls d σ H → wpAny (model X.prog X.w) X.A (handleBy (.ref a) X.env hds) (SP X pins D) X.xe s)
    (w : (PySem.W.exmOne X.K cls p.c = some true ∧ ∀ a, H a = none → p.ts a cls d (D.drop p.i) (σ.set p.i (some (.ref a))) H) ∨ (PySem.W.exmOne X.K cls p.c = some false ∧ W cls d σ H)) :
    wpAny (model X.prog X.w) X.A (handleBy (.ref a) X.env (.ExceptHandler (some (.Name x np)) (some n) (b₀ :: su) pos :: hds)) (SP X pins D) X.xe s := by
  obtain ⟨o, g, z, _, S⟩ := G.suite hf
  have ty : PySem.W.Looks (model X.prog X.w) s.heap (typeOf (.ref a)) cls := fun _ _ _ _ k q => wpAny_typeOf_ref (k _ _ g) (z.1 ▸ q)
  refine wpAny_handleBy_cons (codeAny_handlers_test ?_) (fun q => nomatch q)
  have name : ∀ {Q E : Value → Shared → Prop}, Q p.c s → wpAny (model X.prog X.w) (X.A.mark (some (.ref a))) (eval (.Name x np) X.env) Q E s := fun q =>
    match hc with
    | ⟨h1, h2, .inl m⟩ => ld_glob (X := X.suite a ((a, o) :: (X.pn ++ pins))) S h1 m q h2
    | ⟨h1, h2, .inr ⟨m, v, y⟩⟩ => ld_blt (X := X.suite a ((a, o) :: (X.pn ++ pins))) S h1 m v q y h2
  rcases w with ⟨e, w⟩ | ⟨e, w⟩
  · refine name ((PySem.W.exm_one (M := model X.prog X.w) G.at_.kIn ty e).here (codeAny_handlers_suite_as (HandSPX.lands_againZ G.fly fun g2 f2 u2 => ?_)))
    have G2 := G.to f2 u2
    obtain ⟨o2, _, z2, d2, S2⟩ := G2.suite hf
    exact store_ok (X := X.suite a ((a, o2) :: (X.pn ++ pins))) (v := .ref a) S2 hN hi (.inl hl) rfl (fun t J => wpAny_mono ((hsu o2 (X.pn ++ pins) z2 d2).run [] t _ H _ J (w a G.new)) (fun fl t2 r => flow_drop G.at_.ok hN hi hl r) fun _ _ f => f.elim) (.inr hl)
  · exact name ((PySem.W.exm_one (M := model X.prog X.w) G.at_.kIn ty e).here (miss w))
end
/-- the clauses of a try, with their readings -/
inductive HdsAs (X : Cx) : List ExceptHandler → List Cls1 → Prop
  | nil : HdsAs X [] []
  | cons {x n : Str} {c : Value} {i : Nat} {ts : Addr → Value → Option Addr → TS} {b₀ : Stmt} {su : List Stmt} {np pos : Pos} {hds : List ExceptHandler} {l : List Cls1} (hi : X.N[i]? = some n) (hl : X.env.kindOf n = some .local) (hc : Names X x c)
      (hsu : ∀ (a : Addr) (o : Obj) (cls : Value) (d : Option Addr) (pn : List (Addr × Obj)), Zc cls d o → (∃ us, o.data = .fields us) → PSs (X.suite a ((a, o) :: pn)) (b₀ :: su) (ts a cls d)) (r : HdsAs X hds l) : HdsAs X (.ExceptHandler (some (.Name x np)) (some n) (b₀ :: su) pos :: hds) (⟨c, i, ts⟩ :: l)
section
variable {X : Cx} {pins : List (Addr × Obj)} {σ : L2.St} {H : Hp} {s : Shared} {a : Addr} {cls : Value} {d : Option Addr} {B : Heap} {W : WX} {D : Ends}
theorem HdsAs.go (hf : X.env.frame = some X.env.locals) (hN : X.N.Nodup) (tk : Takes X W) (G : Grd X pins σ H a cls d B s) {hds : List ExceptHandler} {l : List Cls1} (hh : HdsAs X hds l) (w : wAsM X.K W D l cls d σ H) :
    wpAny (model X.prog X.w) X.A (handleBy (.ref a) X.env hds) (SP X pins D) X.xe s := by
  induction hh with
  | nil => exact G.pass hf tk w
  | @cons x n c i ts _ _ _ _ _ _ hi hl hc hsu _ ih => exact G.ask (p := ⟨c, i, ts⟩) hf hN hi hl hc (fun o pn => hsu a o cls d pn) ih w
/-- thrown by the body, noted, on the ground -/
theorem ground {xe : Value → Shared → Prop} {u : Value} {Q : Shared → Prop} (hs : X.stack = X.env :: X.outer) (hf : X.env.frame = some X.env.locals) (ok : X.Ok) (x : XE (X.tr (X.pn ++ pins) xe) W u s)
    (q : ∀ a cls d σ H B g, u = .ref a → Grd X pins σ H a cls d B { s with heap := g } → W cls d σ H → Q { s with heap := g }) :
    wpAny (model X.prog X.w) X.A (noteFrame u X.env) (fun _ s2 => wpAny (model X.prog X.w) X.A (setFlight u none) (fun _ s3 => Q s3) X.xe s2) X.xe s := by
  obtain ⟨a, B, s0, _, σ, H, cls, d, rfl, J, nb, up, sk, na, os, ag, w⟩ := x
  have J0 : Inv X pins σ H s0 := J.ofTry ok
  refine Sky.land Zc.steady (ok.frames.trans (congrArg some hs)) hf (hs ▸ sk) fun g f u => q a cls d σ H B g rfl ⟨f, na, fun g2 f2 u2 => J0.landed nb f2.1 (up.trans (u.trans u2)) os ag, fun W2 g2 f2 u2 w2 => ?_⟩ w
  exact ⟨a, B, s0, pins, σ, H, cls, d, rfl, J0, nb, (up.trans u).trans u2, .inr (.inr (hs.symm ▸ f2)), na, os, ag, w2⟩
theorem ps_try_asM {body : List Stmt} {h₀ : ExceptHandler} {hds : List ExceptHandler} {l : List Cls1} {pos : Pos} {tb : WX → TS} (hs : X.stack = X.env :: X.outer) (hf : X.env.frame = some X.env.locals) (hN : X.N.Nodup) (tk : Takes X W)
    (hb : ∀ (W : WX) (pn : List (Addr × Obj)) (xe : Value → Shared → Prop), Takes (X.tr pn xe) W → PassesOwn (model X.prog X.w) X.A X.env xe → PSs (X.tr pn xe) body (tb W)) (hh : HdsAs X (h₀ :: hds) l) :
    PS X (.Try body (h₀ :: hds) [] [] pos) (fun D σ H => tb (wAsM X.K W D l) D σ H) :=
  ⟨fun pins s σ H D J h => wpAny_Try_except (wpAny_mono ((hb (wAsM X.K W D l) (X.pn ++ pins) _ (fun u t x => ground (Q := fun t => wpAny (model X.prog X.w) X.A (handleBy u X.env (h₀ :: hds)) (SP X pins D) X.xe t) hs hf J.ok x fun a cls d σ H B g e G w => by
      subst e
      exact hh.go hf hN tk G w) PassesOwn.looking).run [] s σ H D (J.toTry _) h) (fun fl t r => by
    cases fl with
    | next => exact match r with | ⟨σ2, H2, J2, e⟩ => wpAny_execs_nil ⟨σ2, H2, J2.ofTry J.ok, e⟩
    | ret u => exact match r with | ⟨v, σ2, H2, J2, k, e⟩ => ⟨v, σ2, H2, J2.ofTry J.ok, k, e⟩
    | _ => exact match r with | ⟨σ2, H2, J2, e⟩ => ⟨σ2, H2, J2.ofTry J.ok, e⟩) fun _ _ e => e)⟩
end
/-- what leaves a def with its context told leaves it without, too -/
theorem cx_of_N {P : Program} {w : World} {outer : List Env} {H : Hp} {s : Shared} {E : XK} {u : Value} {s' : Shared} (c : L2N.CX P w outer H s E u s') : L2.CX P w outer H s E u s' := by
  obtain ⟨a, B, H', cls, d, e, ⟨f1, f2, f3, oe, vs, T, oT, ts, g1, g2, g3⟩, r⟩ := c
  exact ⟨a, B, H', cls, d, e, ⟨f1, f2, f3, oe, vs, T, oT, ts, g1, g2.zc, g3⟩, r⟩
theorem fn_N {P : Program} {w : World} {K : PySem.W.Frag} {mg : Str → Option Value} {base : Heap} {k : Nat} {f : Addr} {fd : FuncData} {ps : List Str} {sp : Sp} (h : FnOk P w K mg base (L2N.CX P w) k f fd ps sp) : FnOk P w K mg base (L2.CX P w) k f fd ps sp :=
  ⟨h.len, fun A outer s H args us vs Q E hr e0 hb r hs => codeAny_mono (h.run A outer s H args us vs Q E hr e0 hb r hs) fun rr s' hq => by
    cases rr with
    | error e => exact cx_of_N hq
    | ok fl => cases fl <;> exact hq⟩
end Ft
set_option Elab.async false
set_option linter.all false
set_option maxRecDepth 100000
set_option maxHeartbeats 4000000
namespace Ft
open PySem L2
def spErrInit (C : Addr) (n : Str) : Sp := fun vs H Q _ => ∃ (a : Addr) (v : V), vs = [.ref a, v] ∧ H a = some (exo a C none) ∧
  ∀ dx, H dx = none → dx ≠ a → Q .non (upd (upd H dx (exd dx [(n, v)])) a (exo a C (some dx)))
structure ErrT (P : PySem.Program) (w : World) (K : PySem.W.Frag) (mg : Str → Option Value) (base : Heap) (x n : Str) (ps : List Str) (C : Addr) : Prop where
  o : OexC K C
  g : mg x = some (.ref C)
  nF : PySem.W.findIn K (.ref C) n = some none
  ex : ∃ (f : Addr) (fd : FuncData), PySem.W.findIn K (.ref C) "__init__" = some (some (.ref f)) ∧ PySem.W.typeIn K (.ref f) = some (.type "function") ∧ FnOk P w K mg base CX0 1 f fd ps (spErrInit C n) ∧ Binds K fd ps []
  xf : XfC K C
section
variable {X : Cx}
theorem ps_raiseE {x n : Str} {psI : List Str} {C : Addr} {a : Expr} {ta : TA} {W : WX} {p pos pos2 : Pos} (hc : X.calm = true) (T : ErrT X.prog X.w X.K X.mg X.base x n psI C) (hr : Room 2 X.A) (tk : L2N.Takes X W) (ha : PA X [a] ta) (hg : Gl X x := by rfl) (hdb : (x == ("__debug__" : Str)) = false := by decide)
    (he : starEach (a :: []) X.env = (false, eval a X.env) :: starEach [] X.env := by rfl) (hpl : (backTo pos (starEach [] X.env)).any (·.1) = false := by rfl) :
    PS X (.Raise (some (.Call (.Name x p) [a] [] pos)) none pos2) (fun _ σ H => tMkO C (spErrInit C n) [] ta σ H fun cls d H' => W cls d σ H') := by
  obtain ⟨f, fd, i1, i2, F, bn⟩ := T.ex
  exact L2N.ps_raise (pos := pos2) hc tk (pmk_oexN (p := p) (pos := pos) T.o i1 i2 F hr bn .nil hg T.g ha hdb he hpl)
theorem mkE {C : Addr} {n : Str} {H1 : Hp} {Q : XK} {f : V} (q : ∀ d, H1 d = none → Q (.ref C) (some d) (upd H1 d (.xd [(n, f)]))) :
    [f].length ≤ 1000 ∧ ∀ a, H1 a = none → spErrInit C n (.ref a :: ([f] ++ [])) (upd H1 a (exo a C none))
      (fun v H2 => v = .non ∧ ∃ (d : Addr) (fs : List (Str × V)), H2 a = some (exo a C (some d)) ∧ H2 d = some (exd d fs) ∧ H1 d = none ∧ Q (.ref C) (some d) (upd (del H2 a) d (.xd fs))) (fun _ _ _ => False) := by
  refine ⟨by show 1 ≤ 1000; decide, fun a na => ⟨a, f, rfl, upd_same, fun dx ndx dxa => ⟨rfl, dx, [(n, f)], upd_same, ?_, ?_, ?_⟩⟩⟩
  · rw [upd_ne dxa, upd_same]
  · rw [upd_ne dxa] at ndx; exact ndx
  · rw [upd_ne dxa] at ndx
    have e : upd (del (upd (upd (upd H1 a (exo a C none)) dx (exd dx [(n, f)])) a (exo a C (some dx))) a) dx (.xd [(n, f)]) = upd H1 dx (.xd [(n, f)]) := by
      funext b
      by_cases c1 : b = dx
      · rw [c1, upd_same, upd_same]
      · rw [upd_ne c1, upd_ne c1]
        by_cases c2 : b = a
        · rw [c2, del_same, na]
        · rw [del_ne c2, upd_ne c2, upd_ne c1, upd_ne c2]
    rw [e]
    exact q dx ndx
end
end Ft
set_option Elab.async false
set_option linter.all false
set_option maxRecDepth 100000
set_option maxHeartbeats 4000000
set_option Elab.async false
set_option linter.all false
set_option maxRecDepth 100000
set_option maxHeartbeats 4000000
namespace Ft
open PySem L2
theorem same_fr {G H H' : Hp} {ok : Addr → Prop} (s : Same G H) (f : Fr ok H H') (h : ∀ b, G b ≠ none → ok b) : Same G H' := fun b o e => f b o (h b (by rw [e]; exact fun z => nomatch z)) (s b o e)
theorem nn_ne {G : Hp} {a b : Addr} (ha : G a = none) (hb : G b ≠ none) : b ≠ a := fun e => hb (by rw [e]; exact ha)
end Ft
set_option Elab.async false
set_option linter.all false
set_option maxRecDepth 100000
set_option maxHeartbeats 4000000
set_option pp.maxSteps 2500
set_option Elab.async false
set_option linter.all false
set_option maxRecDepth 100000
set_option maxHeartbeats 1000000
set_option Elab.async false
set_option linter.all false
set_option maxRecDepth 100000
set_option maxHeartbeats 4000000
namespace Ft
open PySem PySem.Spec L2 PySem.W
section
variable {prog : PySem.Program} {w : World} {A : Around} {E : Value → Shared → Prop} {s : Shared} {K : Frag} {x C : Addr} {ox : Obj} {od : Option Obj} {name : Str}
theorem ifBoundB_K {M : Model} {id : String} {args : List Value} {Q : Option Value → Shared → Prop} (X : K.In s.heap) (I : InstAt s.heap x ox C od) (hs : findIn K (.ref C) name = some (some (.builtin id))) (S : Slot "object" name id)
    (h : wpAny M A (call (.builtin id) (.ref x :: args)) (fun v => Q (some v)) E s) : wpAny M A (callSpecialIfBound? (.ref x) name args) Q E s := by
  simp only [callSpecialIfBound?, bindSpecialIfBound?]
  refine wpAny_holding (wpAny_bind (wpAny_bind (wpAny_bind (I.type.here ((looks_findIn X hs).here ?_)))))
  simp only [S.bind]
  refine wpAny_bind (wpAny_askSetting (wpAny_ite ?_))
  have fin : wpAny M A (call (.builtin id) ([.ref x] ++ args) >>= fun v => pure (some v)) Q E s := wpAny_bind (wpAny_mono h (fun v s' h' => wpAny_pure h') fun _ _ h' => h')
  split
  · exact wpAny_bind (wpAny_pure (wpAny_pure fin))
  · exact wpAny_tryCatch (wpAny_bind (wpAny_pure (wpAny_pure fin)))
theorem checkB_K {M : Model} {id owner n : String} {rest : List Value} {Q : Unit → Shared → Prop} (hk : builtinKind id = some .slot) (hs : splitId id = some (owner, n)) (ha : argsOk id ⟨.ref x :: rest, []⟩) (X : K.In s.heap) (I : InstAt s.heap x ox C od)
    (hsub : subIn K (.ref C) (.type owner) = some true) (hq : Q () s) : wpAny M A (checkBuiltinCall id ⟨.ref x :: rest, []⟩) Q E s := by
  simp only [checkBuiltinCall, hk, hs]
  refine wpAny_bind ?_
  unfold isInstance
  refine wpAny_bind (I.type.here ((looks_subIn X hsub).here ?_))
  repeat wp_step
  cases hsig : Manifest.signature? id with
  | none => exact wpAny_pure hq
  | some sig =>
    simp only [argsOk, hsig] at ha
    have h2 : Bind.checkArgs id sig ⟨.ref x :: rest, []⟩ = pure () := ha
    show wpAny M A (Bind.checkArgs id sig ⟨.ref x :: rest, []⟩) Q E _
    rw [h2]; exact wpAny_pure hq
/-- a class that takes == and != from object -/
structure PlainEq (K : Frag) (C : Addr) : Prop where
  eq : findIn K (.ref C) "__eq__" = some (some (.builtin "object.__eq__"))
  ne : findIn K (.ref C) "__ne__" = some (some (.builtin "object.__ne__"))
  sub : subIn K (.ref C) (.type "object") = some true
end
end Ft
set_option Elab.async false
set_option linter.all false
set_option maxRecDepth 100000
set_option maxHeartbeats 1000000
namespace Ft
open PySem PySem.Spec L2 PySem.W
section
variable {prog : PySem.Program} {w : World} {A : Around} {E : Value → Shared → Prop} {s : Shared} {K : Frag} {x y C : Addr} {ox oy : Obj} {od od2 : Option Obj}
theorem rc_eq_other (X : K.In s.heap) (I : InstAt s.heap x ox C od) (J : InstAt s.heap y oy C od2) (hC : PlainEq K C) (hu : A.units + 1 < cLine) (ne : x ≠ y) {Q : Value → Shared → Prop} (hq : Q (.bool false) s) : wpAny (model prog w) A (richCompare .Eq (.ref x) (.ref y)) Q E s := by
  unfold richCompare
  simp only [oneThing_ref]
  refine wpAny_holding (wpAny_bind (wpAny_cRoomFor (by omega) ?_))
  rw [cmpInfo_Eq]
  dsimp only
  refine wpAny_bind (I.type.here (wpAny_bind (J.type.here ?_)))
  rw [show (Value.ref C != Value.ref C) = false from by simp]
  simp only [Bool.false_eq_true, if_false]
  refine wpAny_bind (wpAny_pure ?_)
  simp only [Bool.false_eq_true, if_false]
  refine wpAny_bind ?_
  simp only [tryCompare]
  refine wpAny_bind (ifBoundB_K X I hC.eq F.cmp_object.eq (wpAny_call (codeAny_call_builtin F.cmp_object.eq.plain F.cmpEntry_eq (checkB_K F.cmpKind_eq F.cmpSplit_eq (F.cmpArgs_eq _ _) X I hC.sub ?_))))
  have nx : ox.cls ≠ .type "tuple" := by rw [I.cls]; exact fun z => by cases z
  have ny : oy.cls ≠ .type "tuple" := by rw [J.cls]; exact fun z => by cases z
  refine objEq_entry_other ne I.at_ J.at_ nx (wpAny_pure ?_)
  show wpAny _ _ (if (!false) = true then _ else _) _ _ _
  rw [if_pos (show (!false) = true from rfl)]
  refine wpAny_bind (wpAny_bind (ifBoundB_K X J hC.eq F.cmp_object.eq (wpAny_call (codeAny_call_builtin F.cmp_object.eq.plain F.cmpEntry_eq (checkB_K F.cmpKind_eq F.cmpSplit_eq (F.cmpArgs_eq _ _) X J hC.sub (objEq_entry_other (Ne.symm ne) J.at_ I.at_ ny (wpAny_pure ?_)))))))
  exact wpAny_bind (wpAny_rule (wpAny_bind (wpAny_isSame_ref_other ne I.at_ J.at_ nx (wpAny_pure hq))))
end
def rEqOther (C : Addr) : R2 := fun x y H Q => ∃ (a b dx dy : Addr) (fs gs : List (Str × V)), x = .ref a ∧ y = .ref b ∧ a ≠ b ∧ H a = some (.ins C dx fs) ∧ H b = some (.ins C dy gs) ∧ Q (.bl false) H
theorem op_eqOther {X : Cx} {C : Addr} (hC : PlainEq X.K C) (hu : X.A.units + 64 < cLine) : OpR X (compareOp .Eq) (rEqOther C) := by
  intro pins s σ H x y v u Q I rx ry h
  obtain ⟨a, b, dx, dy, fs, gs, rfl, rfl, ne, ha, hb, q⟩ := h
  cases rx
  cases ry
  obtain ⟨mA, J, _⟩ := ins_get I.hok ha
  obtain ⟨od, J, _⟩ := J.look
  obtain ⟨mA2, J2, _⟩ := ins_get I.hok hb
  obtain ⟨od2, J2, _⟩ := J2.look
  obtain ⟨m, hF⟩ := I.fr
  unfold compareOp
  exact rc_eq_other I.kIn J J2 hC (by omega) ne (fin_bl I q rfl)
end Ft
set_option Elab.async false
set_option linter.all false
set_option maxRecDepth 100000
set_option maxHeartbeats 1000000
namespace Ft
open PySem PySem.Spec L2 PySem.W
/-- len(x), x with a __len__ of its own -/
def rLenI (C : Addr) (sp : Sp) : List V → Hp → VK → Prop := fun xs H Q => ∃ (a dx : Addr) (fs : List (Str × V)), xs = [.ref a] ∧ H a = some (.ins C dx fs) ∧ sp [.ref a] H (fun z H' => ∃ n : Nat, z = .int n ∧ n ≤ 16000000 ∧ Q (.int n) H') E0
theorem call_lenI {X : Cx} {k : Nat} {f C : Addr} {fd : FuncData} {ps : List Str} {sp : Sp} (hm : Meth X.K C "__len__" f) (F : FnOk X.prog X.w X.K X.mg X.base CX0 k f fd ps sp) (hr : Room (k + 1) X.A) (hb : Binds X.K fd ps []) : CallR X (.builtin "len") (rLenI C sp) := by
  intro pins s σ H xs us Q I r h
  obtain ⟨a, dx, fs, rfl, ha, q⟩ := h
  rw [Vals.ref1 r]
  obtain ⟨mA, J, _⟩ := ins_get I.hok ha
  obtain ⟨od, J, _⟩ := J.look
  obtain ⟨m, hF⟩ := I.fr
  refine PySem.W.len_K hF I.ok.mod.kin J hm.at_ hm.fn ?_
  have hl : ([Value.ref a]).length = ps.length := F.len _ _ _ _ q
  have b := hb s [.ref a] I.kIn (by rw [List.append_nil]; exact hl)
  rw [List.append_nil] at b
  refine wpAny_call (codeAny_mono (F.run X.A.in1 X.stack s H ⟨[.ref a], []⟩ [.ref a] [.ref a] _ E0 hr.in1 I.env0.in1 b (.cons rfl .nil) q) fun r s' hq => ?_)
  cases r with
  | error e => exact hq.elim
  | ok fl =>
    cases fl with
    | ret u =>
      obtain ⟨v, H', I2, rv, n, e, hn, q2⟩ := I.after hq
      subst e
      obtain ⟨t, e⟩ := (show ∃ t, u = Value.int n t from rv)
      subst e
      exact ⟨⟨by omega, by omega⟩, .int n, H', I2.tok _, ⟨_, rfl⟩, q2⟩
    | next => exact hq.elim
    | brk => exact hq.elim
    | cont => exact hq.elim
end Ft
set_option Elab.async false
set_option linter.all false
set_option maxRecDepth 100000
set_option maxHeartbeats 4000000
namespace Ft
open PySem PySem.Spec PyProof.Rows L2
def PlsAt (H : Hp) (a : Addr) (pls : List Pl) : Prop := ∃ ps : List Addr, H a = some (.lst (ps.map V.ref)) ∧ Paired (PlAt H) ps pls
theorem PlsAt.same {H H' : Hp} {a : Addr} {pls : List Pl} (h : PlsAt H a pls) (s : Same H H') : PlsAt H' a pls := by
  obtain ⟨ps, h1, h2⟩ := h
  exact ⟨ps, s _ _ h1, paired_imp h2 fun _ _ q => q.to fun _ _ e => s _ _ e⟩
def TupS (H H' : Hp) : Prop := ∀ b xs, H b = some (.tup xs) → H' b = some (.tup xs)
theorem TupS.same {H H' : Hp} (s : Same H H') : TupS H H' := fun b xs h => s _ _ h
theorem TupS.put {H : Hp} {q : Addr} {o u : HO} (h : H q = some u) (hu : ∀ xs, u ≠ .tup xs) : TupS H (upd H q o) := fun b xs e => by
  have : b ≠ q := fun z => by rw [z, h] at e; exact hu _ (Option.some.inj e)
  rw [upd_ne this]; exact e
structure Ob (C x dx : Addr) (H Hi : Hp) (fs : List (Str × V)) : Prop where
  fr : Fr (· ≠ x) H Hi
  at_ : Hi x = some (.ins C dx fs)
section
variable {C x dx : Addr} {H Hi Hj : Hp} {fs : List (Str × V)}
theorem Ob.same (h : Ob C x dx H Hi fs) (s : Same Hi Hj) : Ob C x dx H Hj fs := ⟨h.fr.trans (Fr.same s), s _ _ h.at_⟩
theorem Ob.set (h : Ob C x dx H Hi fs) (fs' : List (Str × V)) : Ob C x dx H (upd Hi x (.ins C dx fs')) fs' := ⟨h.fr.trans (Fr.put fun z => z rfl), upd_same⟩
theorem Ob.keep (h : Ob C x dx H Hi fs) {y : Addr} {o : HO} (e : Hi y = some o) (ho : ∀ C dx fs, o ≠ .ins C dx fs) (fs' : List (Str × V)) : (upd Hi x (.ins C dx fs')) y = some o := by
  rw [upd_ne (fun z => by rw [z, h.at_] at e; exact ho _ _ _ (Option.some.inj e).symm)]; exact e
theorem Ob.free (h : Ob C x dx H Hi fs) {y : Addr} (e : Hi y = none) : H y = none := h.fr.free (show y ≠ x from fun z => by rw [z, h.at_] at e; cases e) e
theorem Ob.ne (h : Ob C x dx H Hi fs) {y : Addr} {o : HO} (e : Hi y = some o) (ho : ∀ C dx fs, o ≠ .ins C dx fs) : y ≠ x := fun z => by rw [z, h.at_] at e; exact ho _ _ _ (Option.some.inj e).symm
end
theorem hu65 {A : Around} {k : Nat} (hr : Room k A) : A.units + 65 < cLine := by have := hr.un; omega
def tMakeL (i : Nat) (C : Addr) (sp : Sp) (dvs : List V) (E : XK) (t : TA) : TE := fun σ H Q => σ[i]? = some (some (.ref C)) ∧ tMake C sp dvs E t σ H Q
theorem pe_makeL {X : Cx} {CX : CXT} {k i : Nat} {f C : Addr} {fd : FuncData} {ps : List Str} {sp : Sp} {dvs : List V} {ds : List Value} {E : XK} {x : Str} {p pos : Pos} {e : Expr} {es : List Expr} {t : TA} (M : Mk X.K C f) (F : FnOk X.prog X.w X.K X.mg X.base CX k f fd ps sp) (hr : Room (k + 1) X.A) (hb : Binds X.K fd ps ds) (hd : Vals dvs ds) (hx : Passes CX X E)
    (ha : PA X (e :: es) t) (hN : X.N[i]? = some x := by rfl) (hv : Vis X.env.scope x := by first | exact .inl rfl | exact .inr rfl) (hdb : (x == ("__debug__" : Str)) = false := by decide) (hcd : (x == ("__classdict__" : Str)) = false := by decide)
    (he : starEach (e :: es) X.env = (false, eval e X.env) :: starEach es X.env := by rfl) (hpl : (backTo pos (starEach es X.env)).any (·.1) = false := by rfl) :
    PE X (.Call (.Name x p) (e :: es) [] pos) (tMakeL i C sp dvs E t) := by
  refine ⟨fun pins s σ H Q I h => ?_⟩
  obtain ⟨hs, ht⟩ := h
  refine wpAny_Call_Name_kw (thn ((pe_var (pos := p) hN hv hdb hcd).run pins s σ H (fun v H1 => v = .ref C ∧ H1 = H) I ⟨.ref C, hs, rfl, rfl⟩) fun u s1 ⟨v, H1, I1, r1, q1⟩ => ?_)
  obtain ⟨rfl, rfl⟩ := q1
  cases r1
  refine PySem.W.callWith_K (h₀ := X.base) I.ok.mod.kin M.kp (thn (ha.run pos pins s1 σ _ _ I1 ht) fun us s2 ⟨vs, H2, I2, r, q⟩ => ⟨I2.kIn, ?_⟩) he hpl
  exact run_make M F hr hb hd hx I2 r q
structure LtCls (K : PySem.W.Frag) (C : Addr) : Prop where
  cl : Cls K C
  na : ∀ a ∈ ["program", "spots"], NoAttr K C a
def ltF (pg l : V) : List (Str × V) := [("program", pg), ("spots", l)]
section
variable {P : PySem.Program} {w : World} {K : PySem.W.Frag} {mg : Str → Option Value} {base : Heap}
abbrev sLateInit : Stmt := inClass (topS 10) 0
theorem scLateInit : FnScope ["self", "program", "spots"] ["self", "program", "spots"] (defScope sLateInit) := ⟨rfl, rfl, rfl, by decide +kernel, rfl, by decide +kernel, by decide +kernel⟩
def spLateInit (C : Addr) : Sp := fun vs H Q _ => ∃ (x dx : Addr) (pg l : V), vs = [.ref x, pg, l] ∧ H x = some (.ins C dx []) ∧ ∀ H', Ob C x dx H H' (ltF pg l) → Q .non H'
theorem ok_LateInit {f C : Addr} {fd : FuncData} {k : Nat} (F : Fun K "__init__" "Late.__init__" sLateInit f fd) (LC : LtCls K C) : FnOk P w K mg base CX0 (k + 1) f fd ["self", "program", "spots"] (spLateInit C) := by
  refine F.ok scLateInit (fun vs H Q E h => ?_) (fun cdv A outer s H vs Q E hr h => ?_)
  · obtain ⟨x, dx, pg, l, rfl, _⟩ := h
    rfl
  obtain ⟨x, dx, pg, l, rfl, hx, q⟩ := h
  refine ⟨_, (pss_cons (ps_fld (pv 0) (pv 1) rfl)
      (pss_one (ps_fld (pv 0) (pv 2) rfl))), ?_⟩
  have o0 : Ob C x dx H H [] := ⟨Fr.refl, hx⟩
  have o1 := o0.set (putF "program" pg [])
  exact ⟨_, rfl, _, rfl, x, C, dx, _, rfl, hx, LC.cl, LC.na "program" (by simp), (by show 0 < 1000; decide), _, rfl, _, rfl, x, C, dx, _, rfl, o1.at_, LC.cl, LC.na "spots" (by simp), (by show 1 < 1000; decide), q _ (o1.set _)⟩
abbrev sLateEmpty : Stmt := inClass (topS 10) 2
theorem scLateEmpty : FnScope ["cls", "program"] ["cls", "program"] (defScope sLateEmpty) := ⟨rfl, rfl, rfl, by decide +kernel, rfl, by decide +kernel, by decide +kernel⟩
def spLateEmpty (C : Addr) : Sp := fun vs H Q _ => ∃ (pg : V), vs = [.ref C, pg] ∧ ∀ H' x dx l, Same H H' → H' x = some (.ins C dx (ltF pg (.ref l))) → H' l = some (.lst []) → H x = none → H l = none → Q (.ref x) H'
theorem ok_LateEmpty {f fI C : Addr} {fd fdI : FuncData} {k : Nat} (F : Fun K "empty" "Late.empty" sLateEmpty f fd) (hk : 2 ≤ k) (M : Mk K C fI) (FI : FnOk P w K mg base CX0 1 fI fdI ["self", "program", "spots"] (spLateInit C)) (bI : Binds K fdI ["self", "program", "spots"] []) : FnOk P w K mg base CX0 (k + 1) f fd ["cls", "program"] (spLateEmpty C) := by
  refine F.ok scLateEmpty (fun vs H Q E h => ?_) (fun cdv A outer s H vs Q E hr h => ?_)
  · obtain ⟨pg, rfl, _⟩ := h
    rfl
  obtain ⟨pg, rfl, q⟩ := h
  refine ⟨_, (pss_one (ps_ret (pe_makeL (i := 0) M FI (hr.mono (by omega)) bI .nil pass0 (pa_cons (pv 1) (pa_cons (pe_lst pa_nil) pa_nil))))), ?_⟩
  refine ⟨rfl, _, rfl, Nat.zero_le _, fun l nl x dx nx ndx xdx => ?_⟩
  have sI : Same H (upd (upd (upd H l (.lst [])) dx (.own x)) x (.ins C dx [])) := fun b o e => by
    have e1 := Same.new (o := .lst []) nl _ _ e
    rw [upd_ne (ne_of_none e1 nx), upd_ne (ne_of_none e1 ndx)]; exact e1
  have hl : (upd (upd (upd H l (.lst [])) dx (.own x)) x (.ins C dx [])) l = some (.lst []) := by
    rw [upd_ne (fun z => by rw [← z, upd_same] at nx; cases nx), upd_ne (fun z => by rw [← z, upd_same] at ndx; cases ndx)]; exact upd_same
  refine ⟨x, dx, pg, .ref l, rfl, upd_same, fun H' o => ⟨rfl, ?_⟩⟩
  have nxH : H x = none := Same.free (Same.new nl) nx
  refine q H' x dx l (fun b o' e => o.fr _ _ (ne_of_none e nxH) (sI _ _ e)) o.at_ (o.fr _ _ (fun z => by rw [← z, upd_same] at nx; cases nx) hl) nxH nl
end
section
variable {P : PySem.Program} {w : World} {K : PySem.W.Frag} {mg : Str → Option Value} {base : Heap}
abbrev sPlaceOf : Stmt := topS 9
theorem scPlaceOf : FnScope ["thing", "module", "path", "step"] ["thing"] (defScope sPlaceOf) := ⟨rfl, rfl, rfl, by decide +kernel, rfl, by decide +kernel, by decide +kernel⟩
theorem spots_pls {H : Hp} {sl : Addr} {zs : List V} {qs : List Pl} (h : H sl = some (.lst zs)) (hz : Paired (SpotAt H) zs qs) : PlsAt H sl qs := by
  have go : ∀ {zs : List V} {qs : List Pl}, Paired (SpotAt H) zs qs → ∃ ps : List Addr, zs = ps.map V.ref ∧ Paired (PlAt H) ps qs := fun {zs qs} h => by
    induction h with
    | nil => exact ⟨[], rfl, .nil⟩
    | cons r _ ih =>
      obtain ⟨T, pv, e, hT, b, e2, hb⟩ := r
      obtain ⟨ps, e3, h3⟩ := ih
      subst e2
      exact ⟨T :: ps, by rw [e, e3]; rfl, .cons ⟨b, hT, hb⟩ h3⟩
  obtain ⟨ps, e, hp⟩ := go hz
  exact ⟨ps, by rw [← e]; exact h, hp⟩
theorem filter_sub {α : Type} [DecidableEq α] : ∀ {l m : List α}, m.Sublist l → l.Nodup → l.filter (fun x => decide (x ∈ m)) = m
  | _, _, .slnil, _ => rfl
  | a :: l, m, .cons _ h, nd => by
    rw [List.nodup_cons] at nd
    have na : a ∉ m := fun z => nd.1 (h.subset z)
    rw [List.filter_cons_of_neg (by simp [na])]
    exact filter_sub h nd.2
  | a :: l, _ :: m, .cons_cons _ h, nd => by
    rw [List.nodup_cons] at nd
    rw [List.filter_cons_of_pos (by simp)]
    congr 1
    have : ∀ x ∈ l, (decide (x ∈ a :: m) : Bool) = decide (x ∈ m) := fun x hx => by
      have : x ≠ a := fun z => nd.1 (by rw [← z]; exact hx)
      simp [this]
    exact (List.filter_congr this).trans (filter_sub h nd.2)
theorem filter_subP {α : Type} [DecidableEq α] {l m : List α} {p : α → Bool} (s : m.Sublist l) (nd : l.Nodup) (hp : ∀ x, p x = true ↔ x ∈ m) : l.filter p = m := by
  rw [show p = fun x => decide (x ∈ m) from funext fun x => Bool.eq_iff_iff.mpr (by rw [hp, decide_eq_true_eq])]
  exact filter_sub s nd
abbrev sLateOf : Stmt := inClass (topS 10) 3
theorem scLateOf : FnScope ["cls", "program", "places", "some", "thing", "place"] ["cls", "program", "places"] (defScope sLateOf) := ⟨rfl, rfl, rfl, by decide +kernel, rfl, by decide +kernel, by decide +kernel⟩
def PlOk (pls : List Pl) : Prop := pls.length ≤ 1000 ∧ ∀ p ∈ pls, p.2.length ≤ 1000 ∧ PyData.strOk p.1 = true
theorem PlOk.sub {a b : List Pl} (h : PlOk b) (s : a.Sublist b) : PlOk a := ⟨Nat.le_trans s.length_le h.1, fun p hp => h.2 p (s.subset hp)⟩
end
section
variable {P : PySem.Program} {w : World} {K : PySem.W.Frag} {mg : Str → Option Value} {base : Heap}
abbrev sLateWhole : Stmt := inClass (topS 10) 1
theorem scLateWhole : FnScope ["cls", "program"] ["cls", "program"] (defScope sLateWhole) := ⟨rfl, rfl, rfl, by decide +kernel, rfl, by decide +kernel, by decide +kernel⟩
def spLateWhole (C CP : Addr) : Sp := fun vs H Q _ => ∃ (pg pdx sl : Addr) (r : V) (zs : List V), vs = [.ref C, .ref pg] ∧ H pg = some (.ins CP pdx [("rows_of", r), ("spots", .ref sl)]) ∧ H sl = some (.lst zs) ∧
  ∀ H' x dx l', Same H H' → H' x = some (.ins C dx (ltF (.ref pg) (.ref l'))) → H' l' = some (.lst zs) → H x = none → H l' = none → Q (.ref x) H'
theorem ok_LateWhole {f fI C CP : Addr} {fd fdI : FuncData} {k : Nat} (F : Fun K "whole" "Late.whole" sLateWhole f fd) (B : Bl mg) (PC : PCls K mg CP) (hk : 2 ≤ k) (M : Mk K C fI) (FI : FnOk P w K mg base CX0 1 fI fdI ["self", "program", "spots"] (spLateInit C)) (bI : Binds K fdI ["self", "program", "spots"] []) : FnOk P w K mg base CX0 (k + 1) f fd ["cls", "program"] (spLateWhole C CP) := by
  refine F.ok scLateWhole (fun vs H Q E h => ?_) (fun cdv A outer s H vs Q E hr h => ?_)
  · obtain ⟨pg, pdx, sl, r, zs, rfl, _⟩ := h
    rfl
  obtain ⟨pg, pdx, sl, r, zs, rfl, hpg, hsl, q⟩ := h
  refine ⟨_, (pss_one (ps_ret (pe_makeL (i := 0) M FI (hr.mono (by omega)) bI .nil pass0 (pa_cons (pv 1) (pa_cons (pe_callTy call_list_of (by rfl) B.list (by decide +kernel) (pa_cons (pe_fld (pv 1) rfl) pa_nil)) pa_nil))))), ?_⟩
  refine ⟨rfl, _, rfl, _, rfl, pg, CP, pdx, _, _, rfl, hpg, PC.cl, PC.nS, lk_spots _ _, sl, zs, rfl, .inl (SqL.of hsl), fun L nL => ?_⟩
  have s1 := Same.new nL (o := .lst zs)
  have hL : (upd H L (.lst zs)) L = some (.lst zs) := upd_same
  generalize upd H L _ = H1 at *
  refine fun x dx nx ndx xdx => ?_
  have sI : Same H1 (upd (upd H1 dx (.own x)) x (.ins C dx [])) := fun b o e => by
    rw [upd_ne (ne_of_none e nx), upd_ne (ne_of_none e ndx)]; exact e
  refine ⟨x, dx, .ref pg, .ref L, rfl, upd_same, fun H' o => ⟨rfl, ?_⟩⟩
  have s3' : Same H1 H' := fun b o' e => o.fr _ _ (ne_of_none e nx) (sI _ _ e)
  exact q H' x dx L (Same.trans s1 s3') o.at_ (s3' _ _ hL) (Same.free s1 nx) nL
abbrev sLatePlaces : Stmt := inClass (topS 10) 4
theorem scLatePlaces : FnScope ["self"] ["self"] (defScope sLatePlaces) := ⟨rfl, rfl, rfl, by decide +kernel, rfl, by decide +kernel, by decide +kernel⟩
def spLatePlaces (C : Addr) : Sp := fun vs H Q _ => ∃ (x dx l : Addr) (r : V) (zs : List V), vs = [.ref x] ∧ H x = some (.ins C dx (ltF r (.ref l))) ∧ H l = some (.lst zs) ∧ ∀ m, H m = none → Q (.ref m) (upd H m (.lst zs))
theorem ok_LatePlaces {f C : Addr} {fd : FuncData} {k : Nat} (F : Fun K "places" "Late.places" sLatePlaces f fd) (B : Bl mg) (LC : LtCls K C) : FnOk P w K mg base CX0 (k + 1) f fd ["self"] (spLatePlaces C) := by
  refine F.ok scLatePlaces (fun vs H Q E h => ?_) (fun cdv A outer s H vs Q E hr h => ?_)
  · obtain ⟨x, dx, l, r, zs, rfl, _⟩ := h
    rfl
  obtain ⟨x, dx, l, r, zs, rfl, hx, hl, q⟩ := h
  refine ⟨_, (pss_one (ps_ret (pe_callTy call_list_of (by rfl) B.list (by decide +kernel) (pa_cons (pe_fld (pv 0) rfl) pa_nil)))), ?_⟩
  exact ⟨_, rfl, x, C, dx, _, _, rfl, hx, LC.cl, LC.na _ (by simp), rfl, l, zs, rfl, .inl (SqL.of hl), q⟩
end
end Ft
set_option Elab.async false
set_option linter.all false
set_option maxRecDepth 100000
set_option maxHeartbeats 4000000
namespace Ft
open PySem L2
abbrev sLDraw : Stmt := topS 37
theorem scLDraw : FnScope ["_law_source_here", "_law_many", "_law_digit", "_law_seed"] ["_law_source_here", "_law_many"] (defScope sLDraw) := ⟨rfl, rfl, rfl, by decide +kernel, rfl, by decide +kernel, by decide +kernel⟩
def spLDraw : Sp := fun vs H Q _ => ∃ (a : Addr) (m n : Int), vs = [.ref a, .int m] ∧ Src H a n ∧ n < 2 ^ 40 ∧ 0 < m ∧ m < 2 ^ 60 ∧
  ∀ H' k, Fr (· ≠ a) H H' → Src H' a (n + 1) → 0 ≤ k → k < m → Q (.int k) H'
section
variable {P : Program} {w : World} {K : PySem.W.Frag} {mg : Str → Option Value} {base : Heap}
theorem ok_LDraw {f : Addr} {fd : FuncData} {k : Nat} (F : Fun K "_law_draw" "_law_draw" sLDraw f fd) (B : Bl mg) : FnOk P w K mg base CX0 (k + 1) f fd ["_law_source_here", "_law_many"] spLDraw := by
  refine F.ok scLDraw (fun vs H Q E h => ?_) (fun cdv A outer s H vs Q E hr h => ?_)
  · obtain ⟨a, m, n, rfl, _⟩ := h
    rfl
  obtain ⟨a, m, n, rfl, ⟨d, sd, ha, hs0, hs1, hn0⟩, hn1, hm0, hm1, q⟩ := h
  refine ⟨_, (pss_cons (ps_asg (pe_op op_add (pe_ix ix_list (pv 0) pe_int (fun _ _ => rfl)) pe_int) (pg_sub (pv 0) pe_int set_list))
      (pss_cons (ps_if (pt_cmpR op_gt (pe_ix ix_list (pv 0) pe_int (fun _ _ => rfl)) pe_int (nomark _)) (pss_cons (ps_set (i := 2) scLDraw.nd rfl (by first | exact Or.inl rfl | exact Or.inr rfl) (pe_op op_mod (pe_callTy call_int1 (by rfl) B.int (by decide +kernel) (pa_cons (pe_ix ix_list (pv 0) pe_int (fun _ _ => rfl)) pa_nil)) (pv 1)))
      (pss_cons (ps_asg (pe_op op_fdivW (pe_ix ix_list (pv 0) pe_int (fun _ _ => rfl)) (pv 1)) (pg_sub (pv 0) pe_int set_list))
      (pss_one (ps_ret (pv 2))))) pss_nil)
      (pss_cons (ps_set (i := 3) scLDraw.nd rfl (by first | exact Or.inl rfl | exact Or.inr rfl) (pe_op op_mod (pe_op op_pow (pe_callTy call_int1 (by rfl) B.int (by decide +kernel) (pa_cons (pe_op op_add (pe_ix ix_list (pv 0) pe_int (fun _ _ => rfl)) (pe_op op_mul pe_int (pe_ix ix_list (pv 0) pe_int (fun _ _ => rfl)))) pa_nil)) pe_int) pe_int))
      (pss_one (ps_ret (pe_op op_mod (pe_op op_fdivW (pe_op op_mod (pe_op op_mul (pe_op op_add (pv 3) (pe_ix ix_list (pv 0) pe_int (fun _ _ => rfl))) pe_int) pe_int) pe_int) (pv 1))))))), ?_⟩
  have a0 : ∀ x y z : Int, atI ([.int x, .int y, .int z] : List V) 0 = some (.int x) := fun _ _ _ => rfl
  have a1 : ∀ x y z : Int, atI ([.int x, .int y, .int z] : List V) 1 = some (.int y) := fun _ _ _ => rfl
  have a2 : ∀ x y z : Int, atI ([.int x, .int y, .int z] : List V) 2 = some (.int z) := fun _ _ _ => rfl
  -- the count
  refine ⟨_, rfl, a, _, 2, _, rfl, rfl, SqL.of ha, a2 _ _ _, n, 1, rfl, rfl, _, rfl, a, _, 2, 2, rfl, rfl, ha, rfl, ?_⟩
  have hb : (upd H a (.lst [.int d, .int sd, .int (n + 1)])) a = some (.lst [.int d, .int sd, .int (n + 1)]) := upd_same
  have fb : Fr (· ≠ a) H (upd H a (.lst [.int d, .int sd, .int (n + 1)])) := Fr.put (fun z => z rfl)
  show tSeq _ _ _ _ (upd H a (.lst [.int d, .int sd, .int (n + 1)]))
  -- the digits
  refine ⟨_, rfl, a, _, 0, _, rfl, rfl, SqL.of hb, a0 _ _ _, d, 0, rfl, rfl, _, rfl, ite2 (fun c => ?_) (fun c => ?_)⟩
  · have c' : (0 : Int) < d := of_decide_eq_true c
    refine ⟨_, rfl, a, _, 0, _, rfl, rfl, SqL.of hb, a0 _ _ _, .inl ⟨d, rfl, _, rfl, d, m, rfl, rfl, hm0, ?_⟩⟩
    refine ⟨_, rfl, a, _, 0, _, rfl, rfl, SqL.of hb, a0 _ _ _, _, rfl, d, m, rfl, rfl, wide_div (b := 60) hm0 (by omega) (by decide) (by decide), _, rfl, a, _, 0, 0, rfl, rfl, hb, rfl, ?_⟩
    refine ⟨_, rfl, q _ _ (fb.trans (Fr.put (fun z => z rfl))) ⟨d / m, sd, upd_same, hs0, hs1, by omega⟩ (Int.emod_nonneg _ (by omega)) (Int.emod_lt_of_pos _ hm0)⟩
  · refine ⟨_, rfl, a, _, 1, _, rfl, rfl, SqL.of hb, a1 _ _ _, _, rfl, a, _, 2, _, rfl, rfl, SqL.of hb, a2 _ _ _, 7919, n + 1, rfl, rfl, .inl ⟨by decide, by decide⟩, sd, _, rfl, rfl, .inl ⟨_, rfl, ?_⟩⟩
    refine ⟨_, 5, rfl, rfl, ⟨by decide, by decide, by omega⟩, _, 2147483647, rfl, rfl, (by decide : (0 : Int) < 2147483647), ?_⟩
    have z0 : 0 ≤ (sd + 7919 * (n + 1)) ^ (5 : Int).toNat % 2147483647 := Int.emod_nonneg _ (by decide)
    have z1 : (sd + 7919 * (n + 1)) ^ (5 : Int).toNat % 2147483647 < 2147483647 := Int.emod_lt_of_pos _ (by decide)
    refine ⟨_, rfl, _, rfl, a, _, 2, _, rfl, rfl, SqL.of hb, a2 _ _ _, _, n + 1, rfl, rfl, _, 40692, rfl, rfl, .inl ⟨by omega, by omega⟩, _, 2147483629, rfl, rfl, (by decide : (0 : Int) < 2147483629), _, 16, rfl, rfl, wide_div (b := 5) (by decide) (by decide) (by decide) (by decide), _, rfl, _, m, rfl, rfl, hm0, ?_⟩
    exact q _ _ fb ⟨d, sd, hb, hs0, hs1, by omega⟩ (Int.emod_nonneg _ (by omega)) (Int.emod_lt_of_pos _ hm0)
end
end Ft
set_option Elab.async false
set_option linter.all false
set_option maxRecDepth 100000
set_option maxHeartbeats 4000000
namespace Ft
open PySem L2
section
variable {P : Program} {w : World} {K : PySem.W.Frag} {mg : Str → Option Value} {base : Heap}
abbrev sLSource : Stmt := topS 36
theorem scLSource : FnScope ["_law_script", "_law_k", "_law_cell", "_law_deep"] ["_law_script", "_law_k"] (defScope sLSource) := ⟨rfl, rfl, rfl, by decide +kernel, rfl, by decide +kernel, by decide +kernel⟩
def spLSource (K : PySem.W.Frag) : Sp := fun vs H Q _ => ∃ (a : Addr) (ns : List Int) (k : Int), vs = [.ref a, .int k] ∧ SqL K H a (ns.map V.int) ∧ 0 ≤ k ∧ k ≤ 1000 ∧
  ∀ H' p, Same H H' → H p = none → Src H' p 0 → Q (.ref p) H'
abbrev sLPick : Stmt := topS 38
theorem scLPick : FnScope ["_law_source_here", "_law_some_here"] ["_law_source_here", "_law_some_here"] (defScope sLPick) := ⟨rfl, rfl, rfl, by decide +kernel, rfl, by decide +kernel, by decide +kernel⟩
def spLPick : Sp := fun vs H Q _ => ∃ (a b : Addr) (xs : List V) (n : Int), vs = [.ref a, .ref b] ∧ Src H a n ∧ n < 2 ^ 40 ∧ b ≠ a ∧ H b = some (.lst xs) ∧ xs ≠ [] ∧ xs.length < 1000000 ∧
  ∀ H' x, Fr (· ≠ a) H H' → Src H' a (n + 1) → x ∈ xs → Q x H'
theorem ok_LPick {f : Addr} {fd : FuncData} {k : Nat} (F : Fun K "_law_pick" "_law_pick" sLPick f fd) (B : Bl mg) (gLDraw : Own P w K mg base k "_law_draw" ["_law_source_here", "_law_many"] spLDraw) : FnOk P w K mg base CX0 (k + 1) f fd ["_law_source_here", "_law_some_here"] spLPick := by
  refine F.ok scLPick (fun vs H Q E h => ?_) (fun cdv A outer s H vs Q E hr h => ?_)
  · obtain ⟨a, b, xs, n, rfl, _⟩ := h
    rfl
  obtain ⟨a, b, xs, n, rfl, hs, hn, nb, hb, hx, hl, q⟩ := h
  refine ⟨_, (pss_one (ps_ret (pe_ix ix_list (pv 1) (pe_own gLDraw (hr.mono (by omega)) (by rfl) (pa_cons (pv 0) (pa_cons (pe_callB call_len_seq (by rfl) B.len (by decide +kernel) (pa_cons (pv 1) pa_nil)) pa_nil))) (fun _ _ => rfl)))), ?_⟩
  have h0 : 0 < xs.length := List.length_pos_iff.mpr hx
  refine ⟨_, rfl, _, rfl, _, rfl, b, _, rfl, .inl (SqL.of hb), a, _, n, rfl, hs, hn, by omega, by omega, fun H' j fr sr j0 j1 => ?_⟩
  obtain ⟨x, e, m⟩ := getD_mem j0 j1
  exact ⟨b, xs, _, x, rfl, rfl, SqL.of (fr _ _ nb hb), e, q _ _ fr sr m⟩
end
end Ft
set_option Elab.async false
set_option linter.all false
set_option maxRecDepth 100000
set_option maxHeartbeats 4000000
set_option pp.maxSteps 3000
set_option pp.deepTerms.threshold 12
namespace Ft
open PySem L2
section
variable {P : Program} {w : World} {K : PySem.W.Frag} {mg : Str → Option Value} {base : Heap}
theorem ok_LSource {f : Addr} {fd : FuncData} {k : Nat} (F : Fun K "_law_source" "_law_source" sLSource f fd) (B : Bl mg) : FnOk P w K mg base CX0 (k + 1) f fd ["_law_script", "_law_k"] (spLSource K) := by
  refine F.ok scLSource (fun vs H Q E h => ?_) (fun cdv A outer s H vs Q E hr h => ?_)
  · obtain ⟨a, ns, k, rfl, _⟩ := h
    rfl
  obtain ⟨a, ns, k, rfl, hS, hk0, hk1, q⟩ := h
  refine ⟨_, (pss_cons (ps_set (i := 2) scLSource.nd rfl (by first | exact Or.inl rfl | exact Or.inr rfl) (pe_ifExp (pt_cmpR op_gt (pe_callB call_len_seq (by rfl) B.len (by decide +kernel) (pa_cons (pv 0) pa_nil)) pe_int (nomark _)) (pe_ix ix_list (pv 0) (pe_op op_mod (pe_callTy call_int1 (by rfl) B.int (by decide +kernel) (pa_cons (pv 1) pa_nil)) (pe_callB call_len_seq (by rfl) B.len (by decide +kernel) (pa_cons (pv 0) pa_nil))) (fun _ _ => rfl)) pe_int))
      (pss_cons (ps_set (i := 3) scLSource.nd rfl (by first | exact Or.inl rfl | exact Or.inr rfl) (pe_ifExp (PW.pt (pw_and (pt_cmpR op_lt (pv 1) (pe_callB call_len_seq (by rfl) B.len (by decide +kernel) (pa_cons (pv 0) pa_nil)) (nomark _)) (pw_and1 (pt_cmpR op_ge (pv 2) (pe_op op_pow pe_int pe_int) (nomark _))))) (pv 2) pe_int))
      (pss_one (ps_ret (pe_lst (pa_cons (pv 3) (pa_cons (pe_op op_add (pe_op op_add (pe_op op_mod (pe_callTy call_int1 (by rfl) B.int (by decide +kernel) (pa_cons (pv 2) pa_nil)) pe_int) (pe_op op_mul pe_int (pv 1))) pe_int) (pa_cons pe_int pa_nil)))))))), ?_⟩
  have hl : (ns.map V.int).length = ns.length := List.length_map _
  have fin : ∀ (c d : Int), (∀ p, H p = none → Q (.ref p) (upd H p (.lst [.int d, .int (c % 2147483647 + 7919000 * k + 104729), .int 0]))) := fun c d p np => by
    have z0 : 0 ≤ c % 2147483647 := Int.emod_nonneg _ (by decide)
    have z1 : c % 2147483647 < 2147483647 := Int.emod_lt_of_pos _ (by decide)
    exact q _ p (Same.new np) np ⟨d, _, upd_same, by omega, by omega, by decide⟩
  refine ⟨_, rfl, a, _, rfl, .inl hS, _, 0, rfl, rfl, _, rfl, ite2 (fun c => ?_) (fun c => ?_)⟩
  · have c' : (0 : Int) < ((ns.map V.int).length : Nat) := of_decide_eq_true c
    rw [hl] at c'
    have m0 : 0 ≤ k % (ns.length : Int) := Int.emod_nonneg _ (by omega)
    have m1 : k % (ns.length : Int) < (ns.length : Int) := Int.emod_lt_of_pos _ c'
    obtain ⟨x, hx, hm⟩ := getD_mem (xs := ns.map V.int) m0 (by rw [hl]; exact m1)
    obtain ⟨z, _, rfl⟩ := List.mem_map.mp hm
    refine ⟨_, rfl, _, rfl, .inl ⟨k, rfl, _, rfl, a, _, rfl, .inl hS, k, _, rfl, rfl, (by rw [hl]; exact c'), a, _, _, _, rfl, rfl, hS, (by rw [hl]; exact hx), ?_⟩⟩
    refine ⟨_, rfl, _, rfl, a, _, rfl, .inl hS, k, _, rfl, rfl, _, rfl, ite2 (fun e => ?_) (fun e => ?_)⟩
    · refine ⟨_, rfl, 10, 18, rfl, rfl, ⟨by decide, by decide, by decide⟩, z, _, rfl, rfl, _, rfl, ite2 (fun e => ?_) (fun e => ?_)⟩
      · refine ⟨_, rfl, ?_⟩
        refine ⟨_, rfl, _, rfl, .inl ⟨z, rfl, z, 2147483647, rfl, rfl, (by decide : (0 : Int) < 2147483647), _, rfl, 7919000, k, rfl, rfl, .inl ⟨by decide, by decide⟩, _, _, rfl, rfl, _, _, rfl, rfl, (by show 3 ≤ sizeLine; decide), ?_⟩⟩
        exact fin z _
      · refine ⟨_, rfl, _, rfl, .inl ⟨z, rfl, z, 2147483647, rfl, rfl, (by decide : (0 : Int) < 2147483647), _, rfl, 7919000, k, rfl, rfl, .inl ⟨by decide, by decide⟩, _, _, rfl, rfl, _, _, rfl, rfl, (by show 3 ≤ sizeLine; decide), ?_⟩⟩
        exact fin z _
    · refine iteF ?_
      refine ⟨_, rfl, _, rfl, .inl ⟨z, rfl, z, 2147483647, rfl, rfl, (by decide : (0 : Int) < 2147483647), _, rfl, 7919000, k, rfl, rfl, .inl ⟨by decide, by decide⟩, _, _, rfl, rfl, _, _, rfl, rfl, (by show 3 ≤ sizeLine; decide), ?_⟩⟩
      exact fin z _
  · refine ⟨_, rfl, _, rfl, a, _, rfl, .inl hS, k, _, rfl, rfl, _, rfl, ite2 (fun e => ?_) (fun e => ?_)⟩
    · refine ⟨_, rfl, 10, 18, rfl, rfl, ⟨by decide, by decide, by decide⟩, 0, _, rfl, rfl, _, rfl, ite2 (fun e => ?_) (fun e => ?_)⟩
      · refine ⟨_, rfl, ?_⟩
        refine ⟨_, rfl, _, rfl, .inl ⟨0, rfl, 0, 2147483647, rfl, rfl, (by decide : (0 : Int) < 2147483647), _, rfl, 7919000, k, rfl, rfl, .inl ⟨by decide, by decide⟩, _, _, rfl, rfl, _, _, rfl, rfl, (by show 3 ≤ sizeLine; decide), ?_⟩⟩
        exact fin 0 _
      · refine ⟨_, rfl, _, rfl, .inl ⟨0, rfl, 0, 2147483647, rfl, rfl, (by decide : (0 : Int) < 2147483647), _, rfl, 7919000, k, rfl, rfl, .inl ⟨by decide, by decide⟩, _, _, rfl, rfl, _, _, rfl, rfl, (by show 3 ≤ sizeLine; decide), ?_⟩⟩
        exact fin 0 _
    · refine iteF ?_
      refine ⟨_, rfl, _, rfl, .inl ⟨0, rfl, 0, 2147483647, rfl, rfl, (by decide : (0 : Int) < 2147483647), _, rfl, 7919000, k, rfl, rfl, .inl ⟨by decide, by decide⟩, _, _, rfl, rfl, _, _, rfl, rfl, (by show 3 ≤ sizeLine; decide), ?_⟩⟩
      exact fin 0 _
end
end Ft
set_option Elab.async false
set_option linter.all false
set_option maxRecDepth 100000
set_option maxHeartbeats 1000000
set_option pp.maxSteps 3000
set_option pp.deepTerms.threshold 8
namespace Ft
open PySem L2
def bfD (f : Str × Fl) : Option (List Row) := match f.2 with
  | .blk b => some b
  | .at _ => none
section
variable {P : PySem.Program} {w : World} {K : PySem.W.Frag} {mg : Str → Option Value} {base : Heap}
abbrev sLBlocks : Stmt := topS 42
theorem scLBlocks : FnScope ["_law_row", "_law_part"] ["_law_row"] (defScope sLBlocks) := ⟨rfl, rfl, rfl, by decide +kernel, rfl, by decide +kernel, by decide +kernel⟩
theorem ok_LBlocksD {f : Addr} {fd : FuncData} {k : Nat} (F : Fun K "_law_blocks" "_law_blocks" sLBlocks f fd) (B : Bl mg) : FnOk P w K mg base CX0 (k + 1) f fd ["_law_row"] spBlocksOf := by
  refine F.ok scLBlocks (fun vs H Q E h => ?_) (fun cdv A outer s H vs Q E hr h => ?_)
  · obtain ⟨v, ok, kk, d, wi, r, rfl, _⟩ := h
    rfl
  obtain ⟨v, ok, kk, d, wi, r, rfl, hok, hat, q⟩ := h
  refine ⟨_, (pss_one (ps_ret (pe_lc (own := [("_law_part", 1)]) (g := (gName 1)) (by rfl) scLBlocks.nd (pi_seq (pv 0)) (blkOk_by (own := [("_law_part", 1)]) (N := ["_law_row", "_law_part"]) (sc := defScope sLBlocks) (by decide +kernel)) (fun _ _ _ _ _ => (pg_name (i := 1) scLBlocks.nd rfl (by first | exact Or.inl rfl | exact Or.inr rfl))) (fun _ _ _ _ _ => (pts_one (pt_val (pe_callB (callK (K := K) rIsiT call_isiT rfl) (by rfl) B.isinstance (by decide +kernel) (pa_cons (pv 1) (pa_cons (pe_tup (pa_cons (pe_bltn (v := .ty "list") (by rfl) B.list (by decide +kernel) rfl) (pa_cons (pe_bltn (v := .ty "tuple") (by rfl) B.tuple (by decide +kernel) rfl) pa_nil))) pa_nil)))))) (fun _ _ _ _ _ => (pv 1))))), ?_⟩
  have rf := rowF_of hok
  obtain ⟨rest, ⟨a, kd, rfl, oka, kka, ha⟩, hrest⟩ := rowV_of hok hat
  refine ⟨_, rfl, a, kd, _, rfl, sq_of ha, fun D nD => ?_⟩
  have lr : rest.length = (flds r).length := paired_len hrest
  have l3 := rf.few
  have lrl : (V.str (rowWord r) :: rest).length = (flds r).length + 1 := by rw [List.length_cons, lr]
  refine lc_it walk_seq (fun i H' => Same H H' ∧ ∃ ys, H' D = some (.lst ys) ∧ ys.length ≤ i ∧ Paired (BlkAt ok kk H d) ys (((flds r).take (i - 1)).filterMap bfD))
    ⟨Same.new nD, [], upd_same, Nat.le_refl 0, .nil⟩ (fun i H' _ ⟨sm, _⟩ => sq_of (sm _ _ ha)) ?_ ?_
  · rintro i x H1 H2 hi ⟨sm, ys, hD, ly, hy⟩ ⟨rfl, hx⟩
    refine ⟨rfl, _, rfl, (by show 2 ≤ sizeLine; decide), fun t0 nt0 => ?_⟩
    have s0 : Same H2 (upd H2 t0 (.tup [.ty "list", .ty "tuple"])) := Same.new nt0
    have ht0 : (upd H2 t0 (.tup [.ty "list", .ty "tuple"])) t0 = some (.tup [.ty "list", .ty "tuple"]) := upd_same
    generalize upd H2 t0 _ = H3 at *
    have sm3 := Same.trans sm s0
    have hD3 := s0 _ _ hD
    cases i with
    | zero =>
      obtain rfl : V.str (rowWord r) = x := Option.some.inj hx
      exact ⟨_, t0, _, _, _, _, rfl, ht0, clsV_all ["list", "tuple"], .base (.str _), kitAny_of (by decide +kernel), false, rfl, iteF ⟨sm3, ys, hD3, by omega, hy⟩⟩
    | succ j =>
      have hx' : rest[j]? = some x := hx
      obtain ⟨f, hf, hfl⟩ := paired_get hrest hx'
      have et : ((flds r).take (j + 1 + 1 - 1)).filterMap bfD = ((flds r).take (j + 1 - 1)).filterMap bfD ++ (bfD f).toList := by
        show ((flds r).take (j + 1)).filterMap bfD = ((flds r).take j).filterMap bfD ++ _
        rw [List.take_add_one, hf, List.filterMap_append]
        rfl
      rw [et]
      have fok := rf.ok f (List.mem_of_getElem? hf)
      obtain ⟨nm, fl⟩ := f
      cases fl with
      | «at» y =>
        obtain rfl : x = y := hfl
        have hy2 : Paired (BlkAt ok kk H d) ys (((flds r).take (j + 1 - 1)).filterMap bfD ++ (bfD (nm, Fl.at x)).toList) := by
          show Paired _ ys (_ ++ [])
          rw [List.append_nil]; exact hy
        rcases fok with ⟨_, hw⟩ | ⟨_, n, e, _⟩
        · obtain ⟨z, rfl⟩ : ∃ z, x = .str z := by
            cases x with
            | str z => exact ⟨z, rfl⟩
            | _ => cases hw
          exact ⟨_, t0, _, _, _, _, rfl, ht0, clsV_all ["list", "tuple"], .base (.str z), kitAny_of (by decide +kernel), false, rfl, iteF ⟨sm3, ys, hD3, by omega, hy2⟩⟩
        · subst e
          exact ⟨_, t0, _, _, _, _, rfl, ht0, clsV_all ["list", "tuple"], .base (.int n), kitAny_of (by decide +kernel), false, rfl, iteF ⟨sm3, ys, hD3, by omega, hy2⟩⟩
      | blk b =>
        obtain ⟨e, he, zs, ⟨c, kd2, rfl, okc, kkc, hc⟩, hzs⟩ := id hfl
        have hc3 := Same.trans sm s0 _ _ hc
        refine ⟨_, t0, _, _, _, _, rfl, ht0, clsV_all ["list", "tuple"], seq_ty hc3, kitAny_of (by cases kd2 <;> decide +kernel), true, rfl, iteT ⟨_, rfl, _, hD3, small (by omega), Same.upN sm3 nD, ys ++ [.ref c], upd_same, by rw [List.length_append]; show ys.length + 1 ≤ _; omega, ?_⟩⟩
        exact paired_app (show BlkAt ok kk H d (.ref c) b from hfl) hy
  · rintro H1 ⟨sm, ys, hD, ly, hy⟩
    have et : ((flds r).take ((V.str (rowWord r) :: rest).length - 1)).filterMap bfD = blocks r := by
      rw [List.length_cons, Nat.add_sub_cancel, lr, List.take_length, rf.blk]
      rfl
    rw [et] at hy
    exact q H1 D ys sm nD hD hy
end
end Ft
set_option Elab.async false
set_option linter.all false
set_option maxRecDepth 100000
set_option maxHeartbeats 2000000
set_option pp.maxSteps 3000
set_option pp.deepTerms.threshold 8
namespace Ft
open PySem L2
def spW (z : Str) (l : List (List Int × Row)) : List (Str × List Int) := (l.filter fun q => isImp q.2).map fun q => (z, q.1)
theorem spW_app (z : Str) (a b : List (List Int × Row)) : spW z (a ++ b) = spW z a ++ spW z b := by unfold spW; rw [List.filter_append, List.map_append]
theorem spW_one (z : Str) (p : List Int) (r : Row) : spW z [(p, r)] = if isImp r = true then [(z, p)] else [] := by
  unfold spW
  cases h : isImp r with
  | false => rw [List.filter_cons_of_neg (by rw [h]; exact Bool.false_ne_true)]; rfl
  | true => rw [List.filter_cons_of_pos (p := fun q : List Int × Row => isImp q.2) (a := (p, r)) h]; rfl
theorem spW_len (z : Str) (l : List (List Int × Row)) : (spW z l).length ≤ l.length := by unfold spW; rw [List.length_map]; exact List.length_filter_le _ _
section
variable {P : Program} {w : World} {K : PySem.W.Frag} {mg : Str → Option Value} {base : Heap}
abbrev sLSpots : Stmt := topS 43
theorem scLSpots : FnScope ["_law_module", "_law_rows", "_law_path", "_law_found", "_law_k", "_law_row", "_law_b", "_law_block"] ["_law_module", "_law_rows", "_law_path"] (defScope sLSpots) := ⟨rfl, rfl, rfl, by decide +kernel, rfl, by decide +kernel, by decide +kernel⟩
def spLSpots (d : Nat) : Sp := fun vs H Q _ => ∃ (z : Str) (v pv : V) (ok : Addr → Prop) (kk : Bool → Bool → Prop) (wi : Bool) (rs : List Row) (p : List Int), vs = [.str z, v, pv] ∧ RowsAt ok kk H d v rs ∧ rs.length ≤ 24 ∧ (∀ r ∈ rs, RowOk d wi r) ∧ d ≤ 3 ∧ PathAt H pv p ∧ p.length + 2 * d ≤ 100 ∧
  ∀ H' l us, Same H H' → H l = none → H' l = some (.lst us) → Paired (SpotAt H') us (spW z (walkL d p rs)) → Q (.ref l) H'
theorem ok_LSpots {f : Addr} {fd : FuncData} {k d : Nat} {spF : Sp} (F : Fun K "_law_spots" "_law_spots" sLSpots f fd) (B : Bl mg) (hk : 1 ≤ k) (gLBlocks : Own P w K mg base 1 "_law_blocks" ["_law_row"] spBlocksOf)
    (gLSpots : Own P w K mg base k "_law_spots" ["_law_module", "_law_rows", "_law_path"] spF) (hF : ∀ e, d = e + 1 → spF = spLSpots e) : FnOk P w K mg base CX0 (k + 1) f fd ["_law_module", "_law_rows", "_law_path"] (spLSpots d) := by
  refine F.ok scLSpots (fun vs H Q E h => ?_) (fun cdv A outer s H vs Q E hr h => ?_)
  · obtain ⟨z, v, pv, ok, kk, wi, rs, p, rfl, _⟩ := h
    rfl
  obtain ⟨z, v, pv, ok, kk, wi, rs, p, rfl, hrs, hlen, hok, hd3, ⟨pa, rfl, hpa⟩, hpl, q⟩ := h
  refine ⟨_, (pss_cons (ps_set (i := 3) scLSpots.nd rfl (by first | exact Or.inl rfl | exact Or.inr rfl) (pe_lst pa_nil))
      (pss_cons (ps_for PassesOwn.never rfl (pi_enumQ (by rfl) B.enumerate (pa_cons (pv 1) pa_nil)) (pg_tup (by rfl) (pgs_cons (pg_name (i := 4) scLSpots.nd rfl (by first | exact Or.inl rfl | exact Or.inr rfl)) (pgs_cons (pg_name (i := 5) scLSpots.nd rfl (by first | exact Or.inl rfl | exact Or.inr rfl)) pgs_nil))) (pss_cut (ps_if (pt_cmpR op_in_seq (pe_ix ix_seq (pv 5) pe_int (fun _ _ => rfl)) (pe_tup (pa_cons pe_str (pa_cons pe_str pa_nil))) (by rfl)) (pss_one (ps_expr (pe_bm PySem.F.plainAttrs_list PySem.F.slot_list_append PySem.F.type_list_append mt_append (pv 3) (pa_cons (pe_tup (pa_cons (pv 0) (pa_cons (pe_mid (pe_op op_catA (pv 2) (pe_tup (pa_cons (pv 4) pa_nil)))) pa_nil))) pa_nil)))) pss_nil)
      (pss_one (ps_for PassesOwn.never rfl (pi_enumQ (by rfl) B.enumerate (pa_cons (pe_own gLBlocks (hr.mono (by omega)) (by rfl) (pa_cons (pv 5) pa_nil)) pa_nil)) (pg_tup (by rfl) (pgs_cons (pg_name (i := 6) scLSpots.nd rfl (by first | exact Or.inl rfl | exact Or.inr rfl)) (pgs_cons (pg_name (i := 7) scLSpots.nd rfl (by first | exact Or.inl rfl | exact Or.inr rfl)) pgs_nil))) (pss_one (ps_expr (pe_bm PySem.F.plainAttrs_list PySem.F.slot_list_extend PySem.F.type_list_extend mt_extend (pv 3) (pa_cons (pe_own gLSpots (hr.mono (by omega)) (by rfl) (pa_cons (pv 0) (pa_cons (pv 7) (pa_cons (pe_mid (pe_op op_catA (pv 2) (pe_tup (pa_cons (pv 4) (pa_cons (pv 6) pa_nil))))) pa_nil)))) pa_nil))))))))
      (pss_one (ps_ret (pv 3))))), ?_⟩
  have c3 : cW d ≤ 112945 := by
    have : cW 3 = 112945 := by decide
    have h4 : d = 0 ∨ d = 1 ∨ d = 2 ∨ d = 3 := by omega
    rcases h4 with e | e | e | e <;> subst e <;> decide
  refine ⟨Nat.zero_le _, fun l nl => ?_⟩
  have s0 : Same H (upd H l (.lst [])) := Same.new nl
  obtain ⟨xs, ⟨a, kd, rfl, oka, kka, ha⟩, hxs⟩ := hrs
  refine ⟨_, rfl, a, kd, xs, rfl, sq_of (s0 _ _ ha), ?_⟩
  refine for_it walk_enumQ (fun i σ H' => Same H H' ∧ (∃ v4 v5 v6 v7, σ = [some (.str z), some (.ref a), some (.ref pa), some (.ref l), v4, v5, v6, v7]) ∧ ∃ us, H' l = some (.lst us) ∧ Paired (SpotAt H') us (spW z ((rs.zipIdx.take i).flatMap (rowW d p))))
    ⟨s0, ⟨none, none, none, none, rfl⟩, [], upd_same, .nil⟩ (fun i σ H' _ ⟨sm, _⟩ => sq_of (sm _ _ ha)) ?_ ?_
  · rintro i x σ H1 H2 hi ⟨sm, ⟨v4, v5, v6, v7, rfl⟩, us, hl, hus⟩ ⟨T, x1, x2, rfl, nT, rfl, e1, e2⟩
    have e1' : x1 = .int (i : Nat) := (Option.some.inj e1).symm
    subst e1'
    obtain ⟨r, hr', hrow⟩ := paired_get hxs e2
    have rok := hok r (List.mem_of_getElem? hr')
    have b3 := blocks_len rok
    have s2 : Same H1 (upd H1 T (.tup [.int (i : Nat), x2])) := Same.new nT
    refine ⟨T, _, rfl, SqT.of upd_same, rfl, _, _, rfl, _, _, rfl, rfl, ?_⟩
    have lz : us.length ≤ 24 * cW d := by
      rw [paired_len hus]
      have h1 : ((rs.zipIdx.take i).flatMap (rowW d p)).length ≤ (rs.zipIdx.take i).length * cW d := flat_len fun q hq => by
        obtain ⟨r', j⟩ := q
        exact rowW_len (hok r' (mem_zipIdx_fst (List.mem_of_mem_take hq))) _ _
      have h2 : (rs.zipIdx.take i).length ≤ 24 := by rw [List.length_take, List.length_zipIdx]; omega
      exact Nat.le_trans (spW_len _ _) (Nat.le_trans h1 (Nat.mul_le_mul_right _ h2))
    generalize hG : upd H1 T _ = G at *
    have sG : Same H G := Same.trans sm s2
    have hlG : G l = some (.lst us) := s2 _ _ hl
    have husG := paired_imp hus fun v q h => SpotAt.to h fun b xs e => s2 _ _ e
    -- its own place
    refine ⟨fun σ H' => Same H H' ∧ (∃ v6 v7, σ = [some (.str z), some (.ref a), some (.ref pa), some (.ref l), some (.int (i : Nat)), some x2, v6, v7]) ∧ ∃ us, H' l = some (.lst us) ∧ Paired (SpotAt H') us (spW z ((rs.zipIdx.take i).flatMap (rowW d p) ++ [(p ++ [(i : Int)], r)])), ?_, ?_⟩
    · obtain ⟨ra, kd0, rest, e, hkd, hra⟩ := rowAt_head hrow
      subst e
      refine ⟨_, rfl, rIx_seq (sq_of (sG _ _ hra)) (atI_nat (j := 0) rfl) ⟨(by show 2 ≤ sizeLine; decide), fun t1 nt1 => ?_⟩⟩
      have st1 : Same G (upd G t1 (.tup [.str "load", .str "pick"])) := Same.new nt1
      have ht1 : (upd G t1 (.tup [.str "load", .str "pick"])) t1 = some (.tup [.str "load", .str "pick"]) := upd_same
      refine ⟨t1, loadPick, rfl, .inr (SqT.of ht1), rfl, rfl, _, rfl, ?_⟩
      show if inV (.str (rowWord r)) loadPick = true then _ else _
      rw [inV_imp]
      have sT : Same H (upd G t1 (.tup [.str "load", .str "pick"])) := Same.trans sG st1
      have hlT := st1 _ _ hlG
      have husT := paired_imp husG fun v q h => SpotAt.to h fun b xs e => st1 _ _ e
      generalize upd G t1 (.tup [.str "load", .str "pick"]) = G1 at *
      cases himp : isImp r with
      | false =>
        refine iteF ⟨sT, ⟨_, _, rfl⟩, us, hlT, ?_⟩
        rw [spW_app, spW_one, himp, if_neg Bool.false_ne_true, List.append_nil]
        exact husT
      | true =>
        refine iteT ⟨_, rfl, .inl ⟨rfl, _, SqL.of hlT⟩, _, rfl, ⟨fun v H' => ∃ b, v = .ref b ∧ H' b = some (.tup ((p ++ [(i : Int)]).map V.int)) ∧ Same G1 H', ?_, ?_⟩⟩
        · refine ⟨_, rfl, _, rfl, (by show 1 ≤ sizeLine; decide), fun t1 nt1 => ?_⟩
          refine ⟨pa, t1, p.map V.int, [.int (i : Nat)], rfl, rfl, SqT.of (Same.new nt1 _ _ (sT _ _ hpa)), SqT.of upd_same, smallE (by rw [List.length_map]; simp; omega), fun e => ?_, fun _ e => (nomatch e), fun _ _ t2 nt2 => ?_⟩
          · have ep : p = [] := List.map_eq_nil_iff.mp e
            subst ep
            exact ⟨t1, rfl, upd_same, Same.new nt1⟩
          · exact ⟨t2, rfl, by rw [upd_same, List.map_append]; rfl, Same.trans (Same.new nt1) (Same.new nt2)⟩
        rintro hv G2 ⟨hb, rfl, hhb, s3⟩
        refine ⟨(by show 2 ≤ sizeLine; decide), fun t3 nt3 => ?_⟩
        have s4 : Same G1 (upd G2 t3 (.tup [.str z, .ref hb])) := Same.trans s3 (Same.new nt3)
        have hhb4 : (upd G2 t3 (.tup [.str z, .ref hb])) hb = some (.tup ((p ++ [(i : Int)]).map V.int)) := Same.new nt3 _ _ hhb
        have ht3 : (upd G2 t3 (.tup [.str z, .ref hb])) t3 = some (.tup [.str z, .ref hb]) := upd_same
        generalize upd G2 t3 _ = G3 at *
        have hl3 := s4 _ _ hlT
        have tp : ∀ b xs, G3 b = some (.tup xs) → (upd G3 l (.lst (us ++ [.ref t3]))) b = some (.tup xs) := fun b xs e => by rw [upd_ne (ne_of e hl3 (fun z => nomatch z))]; exact e
        refine ⟨l, us, _, rfl, rfl, hl3, big (by omega), ⟨Same.upN (Same.trans sT s4) nl, ⟨_, _, rfl⟩, us ++ [.ref t3], upd_same, ?_⟩⟩
        rw [spW_app, spW_one, himp, if_pos rfl]
        exact paired_app (show SpotAt _ (.ref t3) (z, p ++ [(i : Int)]) from ⟨t3, _, rfl, tp _ _ ht3, hb, rfl, tp _ _ hhb4⟩) (paired_imp husT fun v q h => h.to fun b xs e => tp _ _ (s4 _ _ e))
    rintro σ G3 ⟨sG3, ⟨v6', v7', rfl⟩, us3, hl3, hus3⟩
    have lz3 : us3.length ≤ 24 * cW d + 1 := by
      rw [paired_len hus3, spW_app, List.length_append]
      have h1 := spW_len z [(p ++ [(i : Int)], r)]
      rw [paired_len hus] at lz
      rw [List.length_singleton] at h1
      omega
    -- the blocks
    have hrow3 : RowAt (fun x => ok x ∧ x ≠ l) kk G3 d x2 r := hrow.to fun x kd ys k e => ⟨⟨k, ne_of_none e nl⟩, sG3 _ _ e⟩
    refine ⟨_, rfl, x2, fun x => ok x ∧ x ≠ l, kk, d, wi, r, rfl, rok, hrow3, fun G4 bl ys s5 nb hbl hys => ?_⟩
    have lb : ys.length ≤ 2 := by rw [paired_len hys]; exact b3
    have lbl : bl ≠ l := fun e => by rw [e, hl3] at nb; cases nb
    refine ⟨bl, true, ys, rfl, sq_of hbl, ?_⟩
    have sG4 : Same H G4 := Same.trans sG3 s5
    refine for_it walk_enumQ (fun j σ H' => Same H H' ∧ H' bl = some (.lst ys) ∧ (∃ v6 v7, σ = [some (.str z), some (.ref a), some (.ref pa), some (.ref l), some (.int (i : Nat)), some x2, v6, v7]) ∧
        ∃ us, H' l = some (.lst us) ∧ Paired (SpotAt H') us (spW z ((rs.zipIdx.take i).flatMap (rowW d p) ++ [(p ++ [(i : Int)], r)] ++ ((blocks r).zipIdx.take j).flatMap (blkW d p i))) ∧ Keep (fun x => ok x ∧ x ≠ l) (fun x => ok x ∧ x ≠ l) G3 H')
      ⟨sG4, hbl, ⟨_, _, rfl⟩, us3, s5 _ _ hl3, ?_, Keep.fr (Fr.same s5) fun _ k => k⟩ (fun j σ H' _ ⟨_, h, _⟩ => sq_of (kd := true) h) ?_ ?_
    · rw [List.take_zero, List.flatMap_nil, List.append_nil]
      exact paired_imp hus3 fun v q h => h.to fun b xs e => s5 _ _ e
    · rintro j y σ H3 H4 hj ⟨sm4, hbl4, ⟨w6, w7, rfl⟩, us4, hl4, hus4, kp4⟩ ⟨T2, y1, y2, rfl, nT2, rfl, f1, f2⟩
      have f1' : y1 = .int (j : Nat) := (Option.some.inj f1).symm
      subst f1'
      obtain ⟨b, hb', e, rfl, hrows⟩ := paired_get hys f2
      have eF := hF e rfl
      subst eF
      obtain ⟨e', he', h8, hr8⟩ := blk_ok rok (List.mem_of_getElem? hb')
      have ee : e = e' := Nat.succ.inj he'
      subst ee
      have s6 : Same H3 (upd H3 T2 (.tup [.int (j : Nat), y2])) := Same.new nT2
      refine ⟨T2, _, rfl, SqT.of upd_same, rfl, _, _, rfl, _, _, rfl, rfl, ?_⟩
      generalize hG5 : upd H3 T2 _ = G5 at *
      have hl5 : G5 l = some (.lst us4) := s6 _ _ hl4
      have sH5 : Same H G5 := Same.trans sm4 s6
      refine ⟨_, rfl, .inl ⟨rfl, _, SqL.of hl5⟩, _, rfl, _, rfl, ⟨fun v H' => ∃ c, v = .ref c ∧ H' c = some (.tup ((p ++ [(i : Int), (j : Int)]).map V.int)) ∧ Same G5 H', ?_, ?_⟩⟩
      · refine ⟨_, rfl, _, rfl, _, rfl, (by show 2 ≤ sizeLine; decide), fun t1 nt1 => ?_⟩
        refine ⟨pa, t1, p.map V.int, [.int (i : Nat), .int (j : Nat)], rfl, rfl, SqT.of (Same.new nt1 _ _ (sH5 _ _ hpa)), SqT.of upd_same, smallE (by rw [List.length_map]; simp; omega), fun e => ?_, fun _ e => (nomatch e), fun _ _ t2 nt2 => ?_⟩
        · have ep : p = [] := List.map_eq_nil_iff.mp e
          subst ep
          exact ⟨t1, rfl, upd_same, Same.new nt1⟩
        · exact ⟨t2, rfl, by rw [upd_same, List.map_append]; rfl, Same.trans (Same.new nt1) (Same.new nt2)⟩
      rintro cv G6 ⟨c, rfl, hc, s7⟩
      have s36 : Same H3 G6 := Same.trans s6 s7
      have sH6 : Same H G6 := Same.trans sm4 s36
      have hrows6 : RowsAt (fun x => ok x ∧ x ≠ l) kk G6 e y2 b := hrows.to (kp4.trans (Keep.fr (Fr.same s36) fun _ k => k))
      refine ⟨z, y2, .ref c, fun x => ok x ∧ x ≠ l, kk, _, b, p ++ [(i : Int), (j : Int)], rfl, hrows6, by omega, hr8, by omega, ⟨c, rfl, hc⟩, by simp; omega, fun G7 l2 zs2 s8 nl2 hl2' hzs2 => ?_⟩
      have hl7 : G7 l = some (.lst us4) := s8 _ _ (s7 _ _ hl5)
      have s37 : Same H3 G7 := Same.trans s36 s8
      have ce : 8 * cW e ≤ 8 * cW (e + 1) := by
        have : cW (e + 1) = 1 + 48 * cW e := rfl
        omega
      have lz2 : zs2.length ≤ 24 * cW e := by
        rw [paired_len hzs2]
        exact Nat.le_trans (spW_len _ _) (walkL_len h8 hr8 _)
      have lz4 : us4.length ≤ 24 * cW (e + 1) + 1 + 2 * (24 * cW e) := by
        rw [paired_len hus4, spW_app, List.length_append]
        rw [paired_len hus3] at lz3
        have h1 := spW_len z (((blocks r).zipIdx.take j).flatMap (blkW (e + 1) p i))
        have h2 : (((blocks r).zipIdx.take j).flatMap (blkW (e + 1) p i)).length ≤ ((blocks r).zipIdx.take j).length * (24 * cW e) := flat_len fun q hq => by
          obtain ⟨e2, he2, h82, hr82⟩ := blk_ok rok (mem_zipIdx_fst (List.mem_of_mem_take hq))
          have ee2 : e = e2 := Nat.succ.inj he2
          subst ee2
          exact walkL_len h82 hr82 _
        have h3 : ((blocks r).zipIdx.take j).length ≤ 2 := by rw [List.length_take, List.length_zipIdx]; omega
        have h4 := Nat.mul_le_mul_right (24 * cW e) h3
        omega
      refine ⟨l, l2, us4, zs2, rfl, rfl, hl7, hl2', bigE (by omega), ?_⟩
      have tp : ∀ b xs, G7 b = some (.tup xs) → (upd G7 l (.lst (us4 ++ zs2))) b = some (.tup xs) := fun b xs e => by rw [upd_ne (ne_of e hl7 (fun z => nomatch z))]; exact e
      refine ⟨Same.upN (Same.trans sm4 s37) nl, ?_, ⟨_, _, rfl⟩, us4 ++ zs2, upd_same, ?_, (kp4.trans (Keep.fr (Fr.same s37) fun _ k => k)).trans fun x kd ys k e => ⟨k, by rw [upd_ne k.2]; exact e⟩⟩
      · rw [upd_ne lbl]
        exact s37 _ _ hbl4
      · have ez : (blocks r).zipIdx[j]? = some (b, j) := by rw [List.getElem?_zipIdx, hb']; simp
        rw [List.take_add_one, ez, List.flatMap_append, ← List.append_assoc, spW_app]
        refine paired_cat (paired_imp hus4 fun v q h => h.to fun b xs e => tp _ _ (s37 _ _ e)) ?_
        rw [show ((some (b, j) : Option (List Row × Nat)).toList.flatMap (blkW (e + 1) p i)) = walkL e (p ++ [(i : Int), (j : Int)]) b by
          show List.flatMap (blkW (e + 1) p i) [(b, j)] = _
          rw [List.flatMap_cons, List.flatMap_nil, List.append_nil]
          rfl]
        exact paired_imp hzs2 fun v q h => h.to fun b xs e => tp _ _ e
    · rintro σ H3 ⟨sm4, hbl4, ⟨w6, w7, rfl⟩, us4, hl4, hus4, kp4⟩
      refine ⟨sm4, ⟨_, _, _, _, rfl⟩, us4, hl4, ?_⟩
      have ly : ys.length = (blocks r).length := paired_len hys
      have ez : rs.zipIdx[i]? = some (r, i) := by rw [List.getElem?_zipIdx, hr']; simp
      rw [List.take_add_one, ez, List.flatMap_append]
      rw [show ((some (r, i) : Option (Row × Nat)).toList.flatMap (rowW d p)) = (p ++ [(i : Int)], r) :: (blocks r).zipIdx.flatMap (blkW d p i) by
        show List.flatMap (rowW d p) [(r, i)] = _
        rw [List.flatMap_cons, List.flatMap_nil, List.append_nil, rowW_eq rok]]
      have et : (blocks r).zipIdx.take ys.length = (blocks r).zipIdx := List.take_of_length_le (by rw [List.length_zipIdx]; omega)
      rw [et, List.append_assoc] at hus4
      exact hus4
  · rintro σ H1 ⟨sm, ⟨v4, v5, v6, v7, rfl⟩, us, hl, hus⟩
    have et : rs.zipIdx.take xs.length = rs.zipIdx := List.take_of_length_le (by rw [List.length_zipIdx, paired_len hxs]; omega)
    rw [et] at hus
    exact ⟨_, rfl, q _ l us sm nl hl hus⟩
theorem lspots_ok {f : Addr} {fd : FuncData} (F : Fun K "_law_spots" "_law_spots" sLSpots f fd) (B : Bl mg) (m : mg "_law_spots" = some (.ref f)) (b : Binds K fd ["_law_module", "_law_rows", "_law_path"] []) (gLBlocks : Own P w K mg base 1 "_law_blocks" ["_law_row"] spBlocksOf) :
    ∀ d : Nat, Own P w K mg base (2 + d) "_law_spots" ["_law_module", "_law_rows", "_law_path"] (spLSpots d)
  | 0 => own_mk F m b (ok_LSpots (k := 1) F B (by omega) gLBlocks (own_mk F m b fn_false) (fun e h => absurd h (by omega)))
  | d + 1 => own_mk F m b (ok_LSpots (k := 2 + d) F B (by omega) gLBlocks (lspots_ok F B m b gLBlocks d) (fun e h => by
      have : d = e := by omega
      rw [this]))
end
end Ft
set_option Elab.async false
set_option linter.all false
set_option maxRecDepth 100000
set_option maxHeartbeats 1000000
namespace Ft
open PySem L2
def preL (ls : Nat → List Value) : Nat → List Value
  | 0 => []
  | i + 1 => preL ls i ++ ls i
section
variable {prog : Program} {w : World} {A : Around} {R : Result → Shared → Prop} {I : Addr} {fp wr : List Addr} {n : Nat} {P : Nat → Value → Prop} {St : Nat → Heap → Prop}
theorem args_sum2 (a b : Value) : argsOk "sum" ⟨[a, b], []⟩ := by unfold argsOk; kernel_rfl
theorem sum_loopL (W : Walks prog w A.in1 I fp wr n P St) (ls : Nat → List Value) (h₀ : Heap) (hval : ∀ i v, i < n → P i v → ∃ a c, v = .ref a ∧ a ∉ wr ∧ h₀.get? a = some { cls := .type "list", data := .seq (ls i).toArray c }) (hz : ∀ i, i ≤ n → (preL ls i).length ≤ sizeLine)
    (S : Addr) (hSf : S ∉ fp) (hal : ∀ i h b, St i h → b ∈ fp → b < h.objs.size) (hSn : h₀.get? S = none) :
    ∀ (k i : Nat) (s : Shared) (T : Addr) (c cT : Nat), n - i = k → i ≤ n → St i s.heap → (∀ b o, b ∉ wr → h₀.get? b = some o → s.heap.get? b = some o) → s.heap.get? S = some { cls := .type "list", dict := none, data := .seq #[.ref T] c, slots := #[] } → s.heap.get? T = some { cls := .type "list", data := .seq (preL ls i).toArray cT } → T ∉ wr → T ≠ S → (i = 0 ∨ h₀.get? T = none) →
    (∀ h' tk T' c', (∀ b o, b ∉ wr → h₀.get? b = some o → h'.get? b = some o) → h'.get? T' = some { cls := .type "list", data := .seq (preL ls n).toArray c' } → (n = 0 ∨ h₀.get? T' = none) → R (.ok (.ret (.ref T'))) { s with heap := h', toks := tk }) →
    codeAny (model prog w) A (.builtin "sum.loop" ⟨[.ref I, .ref S, rawInt 2, rawInt 0], []⟩) R s := by
  have hSw : S ∉ wr := fun h => hSf (W.sub _ h)
  intro k
  induction k with
  | zero =>
    intro i s T c cT hk hi hst h0 hS hT hTw hTS hT0 hR
    have hin : i = n := by omega
    subst hin
    refine codeAny_builtin F.entry_sum_loop ?_
    rw [Around.under_plainId F.plain_sum_loop _]
    show wpAny _ A.in1 (seqItems? (.ref S) >>= _) _ _ s
    refine wpAny_bind (wpAny_seqItems hS rfl ?_)
    show wpAny _ A.in1 (tryCatch (pyNext (.ref I)) _ >>= _) _ _ s
    refine wpAny_bind (wpAny_tryCatch (W.done s _ _ hst fun h' tk hk' => ?_))
    exact wpAny_pure (hR h' tk T cT (fun b o hb e => hk' b o hb (h0 b o hb e)) (hk' _ _ hTw hT) hT0)
  | succ k ih =>
    intro i s T c cT hk hi hst h0 hS hT hTw hTS hT0 hR
    have hlt : i < n := by omega
    refine codeAny_builtin F.entry_sum_loop ?_
    rw [Around.under_plainId F.plain_sum_loop _]
    show wpAny _ A.in1 (seqItems? (.ref S) >>= _) _ _ s
    refine wpAny_bind (wpAny_seqItems hS rfl ?_)
    show wpAny _ A.in1 (tryCatch (pyNext (.ref I)) _ >>= _) _ _ s
    refine wpAny_bind (wpAny_tryCatch (W.item i s _ _ hlt hst fun v h' tk hP hst' hk' => ?_))
    obtain ⟨a, ca, rfl, haw, ha0⟩ := hval i v hlt hP
    have hS' := hk' S _ hSw hS
    have hT' := hk' T _ hTw hT
    have ha' := hk' a _ haw (h0 a _ haw ha0)
    show wpAny _ A.in1 ((holding [Value.ref a] (binaryOp .Add (.ref T) (.ref a))).attempt >>= _) _ _ _
    have hz' := hz (i + 1) hlt
    rw [show preL ls (i + 1) = preL ls i ++ ls i from rfl, List.length_append] at hz'
    refine wpAny_bind (wpAny_attempt (wpAny_holding (PySem.P.add_list (s := { s with heap := h', toks := tk }) hT' ha' ?_ (by rw [List.size_toArray, List.size_toArray]; exact hz'))))
    have ea : (preL ls i).toArray ++ (ls i).toArray = (preL ls (i + 1)).toArray := by
      show _ = (preL ls i ++ ls i).toArray
      simp
    have pk : ∀ b o, h'.get? b = some o → (h'.push { cls := .type "list", data := .seq ((preL ls i).toArray ++ (ls i).toArray) }).get? b = some o := fun b o e => Heap.get?_push_of_some _ e
    have hS3 := pk _ _ hS'
    have hN2 : (h'.push { cls := .type "list", data := .seq ((preL ls i).toArray ++ (ls i).toArray) }).get? h'.objs.size = some { cls := .type "list", data := .seq ((preL ls i).toArray ++ (ls i).toArray) } := Heap.get?_push_size _ rfl
    show wpAny _ A.in1 (updateSeq S (fun _ => #[.ref h'.objs.size]) >>= _) _ _ _
    refine wpAny_bind ?_
    refine wpAny_updateSeq hS3 rfl ?_
    have hS4 := Heap.get?_update_self (Obj.mapSeq fun _ => #[Value.ref h'.objs.size]) hS3 rfl
    refine wpAny_bind (wpAny_letGo ?_)
    refine wpAny_bind ?_
    have SN : S ≠ h'.objs.size := Nat.ne_of_lt (Heap.lt_size hS')
    have up : ∀ b o, b ≠ S → h'.get? b = some o → (((h'.push { cls := .type "list", data := .seq ((preL ls i).toArray ++ (ls i).toArray) }).update S (Obj.mapSeq fun _ => #[Value.ref h'.objs.size])).update S (Obj.mapSeq fun _ => #[Value.ref h'.objs.size])).get? b = some o := fun b o hb e => (Heap.get?_update_other _ _ (Ne.symm hb)).trans ((Heap.get?_update_other _ _ (Ne.symm hb)).trans (pk b o e))
    refine wpAny_updateSeq hS4 rfl (wpAny_pure ⟨plainId_quiet F.plain_sum_loop _, ih (i + 1) _ h'.objs.size _ 0 (by omega) hlt (W.frame _ _ _ hst' fun b hb o e => up b o (fun h => hSf (by rw [← h]; exact hb)) e) (fun b o hb e => up b o (fun h => by rw [h, hSn] at e; cases e) (hk' b o hb (h0 b o hb e))) (Heap.get?_update_self _ hS4 rfl) ?_ (fun hw => Nat.lt_irrefl _ (hal _ _ _ hst' (W.sub _ hw))) SN.symm (.inr ?_) hR⟩)
    · rw [← ea]
      exact (Heap.get?_update_other _ _ SN).trans ((Heap.get?_update_other _ _ SN).trans hN2)
    · cases e : h₀.get? h'.objs.size with
      | none => rfl
      | some o =>
        by_cases hw : h'.objs.size ∈ wr
        · exact absurd (hal _ _ _ hst' (W.sub _ hw)) (Nat.lt_irrefl _)
        · exact absurd (Heap.lt_size (hk' _ _ hw (h0 _ _ hw e))) (Nat.lt_irrefl _)
end
section
variable {prog : Program} {w : World} {A : Around} {E : Value → Shared → Prop} {s : Shared}
theorem preL_take {lls : List (List Value)} : ∀ {i : Nat}, i ≤ lls.length → preL (fun j => lls.getD j []) i = (lls.take i).flatten
  | 0, _ => by rw [List.take_zero]; rfl
  | i + 1, h => by
    show preL _ i ++ lls.getD i [] = _
    rw [preL_take (Nat.le_of_succ_le h), List.take_add_one, List.getD_eq_getElem?_getD, List.getElem?_eq_getElem h, List.flatten_append]
    simp
theorem get_none {h : Heap} {a : Addr} (k : h.objs.size ≤ a) : h.get? a = none := by
  cases e : h.get? a with
  | none => rfl
  | some o => exact absurd (Heap.lt_size e) (Nat.not_lt_of_le k)
theorem flat_take_le {α : Type} (lls : List (List α)) (i : Nat) : (lls.take i).flatten.length ≤ lls.flatten.length := by
  have e := congrArg (fun z : List (List α) => z.flatten.length) (List.take_append_drop i lls)
  simp only [List.flatten_append, List.length_append] at e
  omega
theorem sum_rawL {l t : Addr} {its : List Value} {lls : List (List Value)} {ct : Nat} {Q : Value → Shared → Prop} (hh : A.handled = none) (hl : s.heap.IsList l its.toArray) (ht : s.heap.get? t = some { cls := .type "list", data := .seq #[] ct }) (hits : Paired (fun v xs => ∃ a c, v = Value.ref a ∧ s.heap.get? a = some { cls := .type "list", data := .seq (List.toArray xs) c }) its lls) (hz : lls.flatten.length ≤ sizeLine)
    (h : ∀ h' tk T' c', (∀ b o, s.heap.get? b = some o → h'.get? b = some o) → h'.get? T' = some { cls := .type "list", data := .seq lls.flatten.toArray c' } → (lls = [] ∨ s.heap.get? T' = none) → Q (.ref T') { s with heap := h', toks := tk }) :
    wpAny (model prog w) A (call (.builtin "sum") [.ref l, .ref t]) Q E s := by
  have hT : s.TypeIs (.ref t) "list" := ⟨_, ht, rfl⟩
  refine call_function_tree F.kind_sum F.plain_sum F.entry_sum (args_sum2 _ _) ?_
  unfold Builtin.«sum»
  simp only [List.length_cons, List.length_nil]
  rw [if_neg (by decide)]
  refine wpAny_bind (wpAny_of_eq (show Builtin.Builtins.bindParams "sum" ["start"] 0 ⟨[.ref t], []⟩ = pure [some (.ref t)] from rfl) ?_)
  have hlt : l < s.heap.objs.size := by obtain ⟨_, e, _⟩ := hl; exact Heap.lt_size e
  refine wpAny_bind (wpAny_pyIter_list hl ?_)
  refine wpAny_bind (wpAny_pure ?_)
  have kp : ∀ b o, s.heap.get? b = some o → (s.heap.push { cls := .type "list_iterator", data := .fields #[.ref l, .int 0 0] }).get? b = some o := fun b o e => Heap.get?_push_of_some _ e
  have hT2 : ({ s with heap := s.heap.push { cls := .type "list_iterator", data := .fields #[.ref l, .int 0 0] } } : Shared).TypeIs (.ref t) "list" := ⟨_, kp _ _ ht, rfl⟩
  simp only [List.forIn_cons, List.forIn_nil]
  refine wpAny_bind (wpAny_bind (wpAny_bind (wpAny_isInstance (T := "list") (b := false) hT2 F.sub_list_str ?_)))
  simp only [Bool.false_eq_true, if_false]
  refine wpAny_pure (wpAny_bind (wpAny_bind (wpAny_isInstance (T := "list") (b := false) hT2 F.sub_list_bytes ?_)))
  simp only [Bool.false_eq_true, if_false]
  refine wpAny_pure (wpAny_bind (wpAny_bind (wpAny_isInstance (T := "list") (b := false) hT2 F.sub_list_bytearray ?_)))
  simp only [Bool.false_eq_true, if_false]
  refine wpAny_pure (wpAny_pure ?_)
  refine wpAny_bind (wpAny_newObj_type ?_)
  generalize hh2 : s.heap.push { cls := .type "list_iterator", data := .fields #[.ref l, .int 0 0] } = h2 at *
  have sz2 : h2.objs.size = s.heap.objs.size + 1 := by rw [← hh2, Heap.size_push]
  have W := Walks.list (prog := prog) (w := w) (A := A.in1) hh s.heap.objs.size l (Nat.ne_of_lt hlt) its.toArray
  have li := paired_len hits
  refine wpAny_pure ⟨plainId_quiet F.plain_sum_loop _, sum_loopL W (fun j => lls.getD j []) s.heap (fun i v hi hv => ?_) (fun i hi => ?_) h2.objs.size (fun hm => ?_) (fun i h b hst hb => ?_) (get_none (by omega)) its.toArray.size 0 _ t _ ct (Nat.sub_zero _) (Nat.zero_le _) (W.frame 0 h2 _ ?_ fun b _ o e => Heap.get?_push_of_some _ e) (fun b o _ e => Heap.get?_push_of_some _ (kp b o e)) (Heap.get?_push_size _ rfl) (Heap.get?_push_of_some _ (kp _ _ ht)) (fun hm => ?_) (fun e => ?_) (.inl rfl) fun h' tk T' c' hk hT' hn => ?_⟩
  · -- an item
    have hi' : i < its.length := by simpa using hi
    have hv' : its[i]? = some v := by simpa using hv
    obtain ⟨xs, hx, a, c, e, ha⟩ := paired_get hits hv'
    refine ⟨a, c, e, fun hm => ?_, ?_⟩
    · have e2 : a = s.heap.objs.size := by simpa using hm
      exact absurd (Heap.lt_size ha) (by rw [e2]; exact Nat.lt_irrefl _)
    · rw [List.getD_eq_getElem?_getD, hx]
      exact ha
  · have hi' : i ≤ lls.length := by rw [← li]; simpa using hi
    rw [preL_take hi']
    exact Nat.le_trans (flat_take_le lls i) hz
  · have := hm
    simp only [List.mem_cons, List.not_mem_nil, or_false] at this
    rcases this with e | e
    · rw [sz2] at e
      exact absurd e (Nat.succ_ne_self _)
    · rw [← e, sz2] at hlt
      exact absurd hlt (Nat.not_lt_of_le (Nat.le_succ _))
  · simp only [List.mem_cons, List.not_mem_nil, or_false] at hb
    rcases hb with rfl | rfl
    · obtain ⟨_, e, _⟩ := hst.1
      exact Heap.lt_size e
    · obtain ⟨_, e, _⟩ := hst.2
      exact Heap.lt_size e
  · rw [← hh2]
    exact ⟨⟨_, Heap.get?_push_size _ rfl, rfl, rfl⟩, hl.push _⟩
  · have e2 : t = s.heap.objs.size := by simpa using hm
    exact absurd (Heap.lt_size ht) (by rw [e2]; exact Nat.lt_irrefl _)
  · have h3 := Heap.lt_size ht
    rw [e, sz2] at h3
    exact absurd h3 (Nat.not_lt_of_le (Nat.le_succ _))
  · have en : its.toArray.size = lls.length := by rw [← li]; simp
    rw [en] at hT' hn
    rw [preL_take (Nat.le_refl _), List.take_length] at hT'
    refine h h' tk T' c' (fun b o e => ?_) hT' (hn.imp_left fun e => List.eq_nil_of_length_eq_zero e)
    refine hk b o (fun hm => ?_) e
    have e2 : b = s.heap.objs.size := by simpa using hm
    exact absurd (Heap.lt_size e) (by rw [e2]; exact Nat.lt_irrefl _)
end
/-- sum(a list of lists, []) -/
def rSumL (K : PySem.W.Frag) : List V → Hp → VK → Prop := fun vs H Q => ∃ (a b : Addr) (ps : List Addr) (xss : List (List V)), vs = [.ref a, .ref b] ∧ SqL K H a (ps.map V.ref) ∧ H b = some (.lst []) ∧ Paired (fun p xs => H p = some (.lst xs)) ps xss ∧ xss ≠ [] ∧ xss.flatten.length ≤ sizeLine ∧ ∀ p, H p = none → Q (.ref p) (upd H p (.lst xss.flatten))
theorem vals_flatten : ∀ {xss : List (List V)} {lls : List (List Value)}, Paired Vals xss lls → Vals xss.flatten lls.flatten
  | _, _, .nil => .nil
  | _, _, .cons r t => by
    rw [List.flatten_cons, List.flatten_cons]
    exact r.append (vals_flatten t)
theorem cr_sumL {X : Cx} (hc : X.calm = true) : CallR X (.builtin "sum") (rSumL X.K) := by
  intro pins s σ H vs us Q I r h
  obtain ⟨a, b, ps, xss, rfl, hs, hb, hp, hne, hz, q⟩ := h
  obtain ⟨u1, u2, rfl, r1, r2⟩ := vals2 r
  cases (show u1 = Value.ref a from r1)
  cases (show u2 = Value.ref b from r2)
  obtain ⟨its, rv, hl, _⟩ := I.list hs
  obtain ⟨_, its2, n2, rb, _, eb⟩ := I.lstM hb
  cases rb
  have go : ∀ {ps : List Addr} {xss : List (List V)} {its : List Value}, Paired (fun p xs => H p = some (.lst xs)) ps xss → Vals (ps.map V.ref) its → ∃ lls, Paired (fun v xs => ∃ a c, v = Value.ref a ∧ s.heap.get? a = some { cls := .type "list", data := .seq (List.toArray xs) c }) its lls ∧ Paired Vals xss lls := by
    intro ps xss its h
    induction h generalizing its with
    | nil => intro rv; cases rv; exact ⟨[], .nil, .nil⟩
    | cons e t ih =>
      intro rv
      cases rv with
      | cons r1 rv =>
        obtain ⟨lls, h1, h2⟩ := ih rv
        obtain ⟨_, jts, n, rj, _, ej⟩ := I.lstM e
        exact ⟨jts :: lls, .cons ⟨_, n, r1, ej⟩ h1, .cons rj h2⟩
  obtain ⟨lls, hits, hv⟩ := go hp rv
  have hvf := vals_flatten hv
  refine sum_rawL (I.ok.hd hc) hl.isList eb hits (by rw [← hvf.length]; exact hz) fun h' tk T' c' hk hT hn => ?_
  have hn' : s.heap.get? T' = none := hn.resolve_left fun e => by
    rw [e] at hv
    cases hv
    exact hne rfl
  have hH : H T' = none := HOk.gone I.hok hn'
  exact ⟨.ref T', _, I.laidN (o := .lst xss.flatten) hk hn' hH ⟨hz, _, c', hvf, hT⟩, rfl, q T' hH⟩
end Ft
set_option Elab.async false
set_option linter.all false
set_option maxRecDepth 100000
set_option maxHeartbeats 4000000
set_option pp.maxSteps 2500
namespace Ft
open PySem L2
def smallA (v : V) : Prop := isAtom v = true ∧ ∀ z : Str, v = .str z → z.length ≤ 1000
/-- an object of parts that stand where ok says -/
def AnyAt (ok : Addr → Prop) (H : Hp) : Nat → V → Prop
  | 0, v => smallA v
  | d + 1, v => smallA v ∨ (∃ a kd xs, v = .ref a ∧ ok a ∧ H a = some (mkO kd xs) ∧ xs.length ≤ 3 ∧ ∀ x ∈ xs, AnyAt ok H d x) ∨ ∃ a kvs, v = .ref a ∧ ok a ∧ H a = some (.dK kvs) ∧ kvs.length ≤ 3 ∧ (kvs.map (·.1)).Nodup ∧ ∀ kv ∈ kvs, AnyAt ok H d kv.2
theorem AnyAt.to {ok ok' : Addr → Prop} {H H' : Hp} (t : ∀ y o, ok y → H y = some o → ok' y ∧ H' y = some o) : ∀ {d : Nat} {v : V}, AnyAt ok H d v → AnyAt ok' H' d v
  | 0, _, h => h
  | d + 1, v, h => by
    rcases h with h | ⟨a, kd, xs, e, k, ha, hl, hx⟩ | ⟨a, kvs, e, k, ha, hl, hn, hx⟩
    · exact .inl h
    · exact .inr (.inl ⟨a, kd, xs, e, (t _ _ k ha).1, (t _ _ k ha).2, hl, fun x m => AnyAt.to t (hx x m)⟩)
    · exact .inr (.inr ⟨a, kvs, e, (t _ _ k ha).1, (t _ _ k ha).2, hl, hn, fun x m => AnyAt.to t (hx x m)⟩)
theorem mkO_nt {kd : Bool} {xs : List V} : ∀ ps, mkO kd xs ≠ .tbl ps := fun ps z => by cases kd <;> cases z
theorem putK_newA {k : Key} {v : V} {acc : List (Key × V)} (h : k ∉ acc.map (·.1)) : putK acc k v = acc ++ [(k, v)] := by
  unfold putK
  rw [if_neg fun e => h ?_]
  obtain ⟨kv, m, e⟩ := List.any_eq_true.mp e
  exact List.mem_map.mpr ⟨kv, m, of_decide_eq_true e⟩
end Ft
set_option Elab.async false
set_option linter.all false
set_option maxRecDepth 100000
set_option maxHeartbeats 1000000
namespace Ft
open PySem L2
inductive Th where
  | at (v : V)
  | dc
  | sq (ts : List Th)
def smallT (v : V) : Bool := isAtom v && match v with
  | .str z => decide (z.length ≤ 1000)
  | _ => true
def ThAt (ok : Addr → Prop) (H : Hp) : Nat → V → Th → Prop
  | _, v, .at x => v = x ∧ smallT x = true
  | _, v, .dc => ∃ a kvs, v = .ref a ∧ ok a ∧ H a = some (.dK kvs)
  | m + 1, v, .sq ts => ∃ a kd xs, v = .ref a ∧ ok a ∧ H a = some (mkO kd xs) ∧ ts.length ≤ 100 ∧ Paired (ThAt ok H m) xs ts
  | 0, _, .sq _ => False
theorem thAt_at {ok : Addr → Prop} {H : Hp} {m : Nat} {v x : V} (h : ThAt ok H m v (.at x)) : v = x ∧ smallT x = true := by cases m <;> exact h
theorem thAt_sq {ok : Addr → Prop} {H : Hp} {m : Nat} {v : V} {ts : List Th} (h : ThAt ok H m v (.sq ts)) : ∃ m' a kd xs, m = m' + 1 ∧ v = .ref a ∧ ok a ∧ H a = some (mkO kd xs) ∧ ts.length ≤ 100 ∧ Paired (ThAt ok H m') xs ts := by
  cases m with
  | zero => exact h.elim
  | succ m =>
    obtain ⟨a, kd, xs, e, k, ha, hl, hp⟩ := h
    exact ⟨m, a, kd, xs, rfl, e, k, ha, hl, hp⟩
/-- what stands at good places is kept -/
def KeepT (ok ok' : Addr → Prop) (H H' : Hp) : Prop := ∀ b o, ok b → (∀ ps, o ≠ .tbl ps) → H b = some o → ok' b ∧ H' b = some o
theorem KeepT.fr {ok ok' : Addr → Prop} {H H' : Hp} (f : Fr ok H H') (h : ∀ x, ok x → ok' x) : KeepT ok ok' H H' := fun b o k _ e => ⟨h b k, f b o k e⟩
theorem KeepT.same {ok : Addr → Prop} {H H' : Hp} (s : Same H H') : KeepT ok ok H H' := fun b o k _ e => ⟨k, s b o e⟩
theorem KeepT.mono {o1 o2 : Addr → Prop} {H : Hp} (h : ∀ x, o1 x → H x ≠ none → o2 x) : KeepT o1 o2 H H := fun b o k _ e => ⟨h b k (by rw [e]; exact fun z => nomatch z), e⟩
theorem KeepT.trans {o1 o2 o3 : Addr → Prop} {H1 H2 H3 : Hp} (a : KeepT o1 o2 H1 H2) (b : KeepT o2 o3 H2 H3) : KeepT o1 o3 H1 H3 := fun x o k n e => by
  obtain ⟨k2, e2⟩ := a x o k n e
  exact b x o k2 n e2
theorem ThAt.to {ok ok' : Addr → Prop} {H H' : Hp} (t : KeepT ok ok' H H') : ∀ {m : Nat} {v : V} {x : Th}, ThAt ok H m v x → ThAt ok' H' m v x := by
  intro m
  induction m with
  | zero =>
    intro v x h
    cases x with
    | «at» x => exact h
    | dc =>
      obtain ⟨a, kvs, e, k, ha⟩ := h
      obtain ⟨k', e'⟩ := t a (.dK kvs) k (fun ps z => nomatch z) ha
      exact ⟨a, kvs, e, k', e'⟩
    | sq ts => exact h.elim
  | succ m ih =>
    intro v x h
    cases x with
    | «at» x => exact h
    | dc =>
      obtain ⟨a, kvs, e, k, ha⟩ := h
      obtain ⟨k', e'⟩ := t a (.dK kvs) k (fun ps z => nomatch z) ha
      exact ⟨a, kvs, e, k', e'⟩
    | sq ts =>
      obtain ⟨a, kd, xs, e, k, ha, hl, hp⟩ := h
      obtain ⟨k', e'⟩ := t _ _ k mkO_nt ha
      exact ⟨a, kd, xs, e, k', e', hl, paired_imp hp fun _ _ q => ih q⟩
theorem ThAt.up {ok : Addr → Prop} {H : Hp} : ∀ {m : Nat} {v : V} {x : Th}, ThAt ok H m v x → ThAt ok H (m + 1) v x := by
  intro m
  induction m with
  | zero =>
    intro v x h
    cases x with
    | «at» x => exact h
    | dc => exact h
    | sq ts => exact h.elim
  | succ m ih =>
    intro v x h
    cases x with
    | «at» x => exact h
    | dc => exact h
    | sq ts =>
      obtain ⟨a, kd, xs, e, k, ha, hl, hp⟩ := h
      exact ⟨a, kd, xs, e, k, ha, hl, paired_imp hp fun _ _ q => ih q⟩
def isSq : Th → Bool
  | .sq _ => true
  | _ => false
def toT : Nat → Row → Th
  | _, .plain w fs => .sq (.at (.str w) :: fs.map .at)
  | d + 1, .make n b => .sq [.at (.str "make"), .at (.str n), .sq (b.map (toT d))]
  | d + 1, .when n b c => .sq [.at (.str "when"), .at (.str n), .sq (b.map (toT d)), .sq (c.map (toT d))]
  | d + 1, .try_ b c => .sq [.at (.str "try"), .sq (b.map (toT d)), .sq (c.map (toT d))]
  | 0, _ => .at .non
theorem small_fld {k : Bool} {v : V} (h : fldOk k v = true) : smallT v = true := by
  cases k <;> cases v <;> first | rfl | cases h | skip
  rename_i z
  have := isW_len h
  show (true && decide (z.length ≤ 1000)) = true
  rw [decide_eq_true (by omega)]
  rfl
theorem small_word {z : Str} (h : isW z = true) : smallT (.str z) = true := small_fld (k := true) h
theorem th_atoms {ok : Addr → Prop} {H : Hp} {m : Nat} : ∀ {xs fs : List V}, Paired (ThAt ok H m) xs (fs.map Th.at) → xs = fs
  | [], [], _ => rfl
  | x :: xs, [], h => by cases h
  | [], y :: ys, h => by cases h
  | x :: xs, y :: ys, h => by
    cases h with
    | cons r t => rw [(thAt_at r).1, th_atoms t]
theorem paired_mapT' {α β γ : Type} {R : α → γ → Prop} {f : β → γ} : ∀ {xs : List α} {ys : List β}, Paired R xs (ys.map f) → Paired (fun x y => R x (f y)) xs ys
  | [], [], _ => .nil
  | x :: xs, [], h => by cases h
  | [], y :: ys, h => by cases h
  | x :: xs, y :: ys, h => by
    cases h with
    | cons r t => exact .cons r (paired_mapT' t)
theorem th_row {ok : Addr → Prop} {H : Hp} : ∀ (d : Nat) (wi : Bool) (m : Nat) (v : V) (r : Row), RowOk d wi r → ThAt ok H m v (toT d r) → RowAt ok anyK H d v r := by
  have plain : ∀ {m : Nat} {v : V} {w : Str} {fs : List V}, ThAt ok H m v (.sq (.at (.str w) :: fs.map .at)) → At ok (anyK false) H v (.str w :: fs) := by
    intro m v w fs h
    obtain ⟨m', a, kd, xs, rfl, e, k, ha, _, hp⟩ := thAt_sq h
    cases hp with
    | cons r t =>
      rw [(thAt_at r).1, th_atoms t] at ha
      exact ⟨a, kd, e, k, trivial, ha⟩
  intro d
  induction d with
  | zero =>
    intro wi m v r hk h
    cases r with
    | plain w fs => exact plain h
    | _ => exact hk.elim
  | succ d ih =>
    intro wi m v r hk h
    have blk : ∀ {m : Nat} {v : V} {b : List Row} {wi : Bool}, (∀ r ∈ b, RowOk d wi r) → ThAt ok H m v (.sq (b.map (toT d))) → ∃ xs, At ok (anyK true) H v xs ∧ Paired (RowAt ok anyK H d) xs b := by
      intro m v b wi hb h
      obtain ⟨m', a, kd, xs, rfl, e, k, ha, _, hp⟩ := thAt_sq h
      exact ⟨xs, ⟨a, kd, e, k, trivial, ha⟩, paired_impM (paired_mapT' hp) fun x r hr q => ih wi m' x r (hb r hr) q⟩
    cases r with
    | plain w fs => exact plain h
    | make n b =>
      obtain ⟨m', a, kd, xs, rfl, e, k, h1, _, h2⟩ := thAt_sq h
      cases h2 with
      | cons r1 t =>
        cases t with
        | cons r2 t =>
          cases t with
          | cons r3 t =>
            cases t
            rw [(thAt_at r1).1, (thAt_at r2).1] at h1
            obtain ⟨ys, h3, h4⟩ := blk hk.2.2.2 r3
            exact ⟨_, ys, ⟨a, kd, e, k, trivial, h1⟩, h3, h4⟩
    | when n b c =>
      obtain ⟨m', a, kd, xs, rfl, e, k, h1, _, h2⟩ := thAt_sq h
      cases h2 with
      | cons r1 t =>
        cases t with
        | cons r2 t =>
          cases t with
          | cons r3 t =>
            cases t with
            | cons r4 t =>
              cases t
              rw [(thAt_at r1).1, (thAt_at r2).1] at h1
              obtain ⟨ys, h3, h4⟩ := blk hk.2.2.2.1 r3
              obtain ⟨zs, h5, h6⟩ := blk hk.2.2.2.2 r4
              exact ⟨_, ys, _, zs, ⟨a, kd, e, k, trivial, h1⟩, h3, h4, h5, h6⟩
    | try_ b c =>
      obtain ⟨m', a, kd, xs, rfl, e, k, h1, _, h2⟩ := thAt_sq h
      cases h2 with
      | cons r1 t =>
        cases t with
        | cons r3 t =>
          cases t with
          | cons r4 t =>
            cases t
            rw [(thAt_at r1).1] at h1
            obtain ⟨ys, h3, h4⟩ := blk hk.2.2.1 r3
            obtain ⟨zs, h5, h6⟩ := blk hk.2.2.2 r4
            exact ⟨_, ys, _, zs, ⟨a, kd, e, k, trivial, h1⟩, h3, h4, h5, h6⟩
end Ft
set_option Elab.async false
set_option linter.all false
set_option maxRecDepth 100000
set_option maxHeartbeats 1000000
set_option pp.maxSteps 3000
set_option pp.deepTerms.threshold 8
set_option Elab.async false
set_option linter.all false
set_option maxRecDepth 100000
set_option maxHeartbeats 4000000
namespace Ft
open PySem L2
theorem perm_keys {β : Type} {a b : List (Str × β)} (hp : a.Perm b) (hk : a.map (·.1) = b.map (·.1)) (nd : (b.map (·.1)).Nodup) : a = b := by
  have hl := hp.length_eq
  refine List.ext_getElem hl fun i h1 h2 => ?_
  have hm : a[i] ∈ b := hp.mem_iff.mp (List.getElem_mem h1)
  obtain ⟨j, hj, ej⟩ := List.mem_iff_getElem.mp hm
  have e1 : (b.map (·.1))[j]? = some a[i].1 := by rw [List.getElem?_map, List.getElem?_eq_getElem hj, ej]; rfl
  have e2 : (b.map (·.1))[i]? = some a[i].1 := by rw [← hk, List.getElem?_map, List.getElem?_eq_getElem h1]; rfl
  have := nd_ix nd e1 e2
  subst this
  exact ej.symm
theorem libs_eq {lib2 lib3 lib : Lib} (p2 : lib2.Perm lib) (p3 : lib3.Perm lib) (s2 : PyProof.Rows.sortedS (lib2.map (·.1)) = true) (s3 : PyProof.Rows.sortedS (lib3.map (·.1)) = true) (nd : (lib.map (·.1)).Nodup) : lib2 = lib3 := by
  have nd2 : (lib2.map (·.1)).Nodup := (p2.map (·.1)).nodup_iff.mpr nd
  have nd3 : (lib3.map (·.1)).Nodup := (p3.map (·.1)).nodup_iff.mpr nd
  have h2 := sortedS_strict s2 nd2
  have h3 := sortedS_strict s3 nd3
  have pk : (lib2.map (·.1)).Perm (lib3.map (·.1)) := (p2.trans p3.symm).map (·.1)
  have ek : lib2.map (·.1) = lib3.map (·.1) := sorted_eq (lt := fun a b : Str => a.cps.toList < b.cps.toList) pk (h2.imp fun h => List.lt_asymm h) h3
  exact perm_keys (p2.trans p3.symm) ek nd3
end Ft
set_option Elab.async false
set_option linter.all false
set_option maxRecDepth 100000
set_option maxHeartbeats 4000000
namespace Ft
open PySem PySem.Spec L2 PySem.W PyProof.Rows
theorem each_str : ∀ {zs : List Str} {us : List Value}, Vals (zs.map V.str) us → EachIs (fun (u : Value) (z : Str) => RelV (.str z) u) us zs
  | [], [], _ => .nil
  | [], _ :: _, h => by cases h
  | _ :: _, [], h => by cases h
  | b :: bs, u :: us, h => by
    cases h with
    | cons r t => exact .cons r (each_str t)
theorem str_each : ∀ {zs : List Str} {us : List Value}, EachIs (fun (u : Value) (z : Str) => RelV (.str z) u) us zs → Vals (zs.map V.str) us
  | _, _, .nil => .nil
  | _, _, .cons r t => .cons r (str_each t)
theorem each_reads {h : Heap} : ∀ {zs : List Str} {us : List Value}, EachIs (fun (u : Value) (z : Str) => RelV (.str z) u) us zs → ∀ a : Addr, EachIs (fun (v : Value) (z : Str) => ∃ as, PySem.Reads h v (PyData.str z) as ∧ a ∉ as) us zs
  | _, _, .nil, _ => .nil
  | _, _, .cons r t, a => .cons (by
    obtain ⟨t, e⟩ := r
    subst e
    exact ⟨[], .str _ _, fun z => nomatch z⟩) (each_reads t a)
theorem strs_alike (zs : List Str) : AllAlike (zs.map PyData.str) := AllAlike.of fun _ _ => rfl
theorem strs_sortable (zs : List Str) : Sortable (zs.map PyData.str) := Sortable.others fun _ => ⟨(fun z => nomatch z), fun _ z => nomatch z⟩
theorem strs_sorted (zs : List Str) : (zs.mergeSort (dataLe false fun z : Str => PyData.str z)).Perm zs ∧ sortedS (zs.mergeSort (dataLe false fun z : Str => PyData.str z)) = true := by
  refine ⟨List.mergeSort_perm _ _, sortedS_of_pairwise _ ?_⟩
  have e : (dataLe false fun z : Str => PyData.str z) = fun a b : Str => decide (a.cps.toList ≤ b.cps.toList) := dataLe_str fun z => z
  rw [e]
  have h := List.pairwise_mergeSort (le := fun a b : Str => decide (a.cps.toList ≤ b.cps.toList)) (fun a b c h1 h2 => decide_eq_true (List.le_trans (of_decide_eq_true h1) (of_decide_eq_true h2))) (fun a b => by
    rcases List.le_total a.cps.toList b.cps.toList with h | h
    · rw [decide_eq_true h]; rfl
    · rw [decide_eq_true h, Bool.or_true]) zs
  refine h.imp fun {a b} h => ?_
  have h := of_decide_eq_true h
  rw [ltCps_eq]
  exact decide_eq_false (List.not_lt.mpr h)
theorem each_ix {R : Value → Str → Prop} : ∀ {us : List Value} {zs : List Str}, us.length = zs.length → (∀ (j : Nat) (u : Value) (z : Str), us[j]? = some u → zs[j]? = some z → R u z) → EachIs R us zs
  | [], [], _, _ => .nil
  | [], _ :: _, h, _ => by cases h
  | _ :: _, [], h, _ => by cases h
  | u :: us, z :: zs, h, k => .cons (k 0 u z rfl rfl) (each_ix (Nat.succ.inj h) fun j u z a b => k (j + 1) u z a b)
def rSortedSL (K : Frag) : List V → Hp → VK → Prop := fun vs H Q => ∃ (a : Addr) (xs : List Str), vs = [V.ref a] ∧ SqL K H a (xs.map V.str) ∧ ∀ (ys : List Str) (p : Addr), ys.Perm xs → sortedS ys = true → H p = none → Q (.ref p) (upd H p (.lst (ys.map V.str)))
theorem cr_sortedSL {X : Cx} (hu : X.A.units + 64 < cLine) : CallR X (.builtin "sorted") (rSortedSL X.K) := by
  intro pins s σ H vs us Q I r h
  obtain ⟨a, xs, rfl, hs, q⟩ := h
  obtain ⟨its, rv, hl, hz⟩ := I.list hs
  rw [Vals.ref1 r]
  have e := each_str rv
  rw [List.length_map] at hz
  refine sorted_data (R := fun (u : Value) (z : Str) => RelV (.str z) u) (enc := fun z : Str => PyData.str z) hl.isList e ((each_reads e 0).mono fun _ _ ⟨as, h, _⟩ => ⟨as, h⟩) (strs_alike xs) (strs_sortable xs) hz (fun b hb => by show X.A.units + 2 + 0 < cLine; omega) fun out hlen ho => ?_
  obtain ⟨ep, he'⟩ := PyProof.Rows.sortedAll_at s.heap its out.toArray
  have hv := str_each ho
  obtain ⟨p1, p2⟩ := strs_sorted xs
  have hlen2 : ((xs.mergeSort (dataLe false fun z : Str => PyData.str z)).map V.str).length ≤ sizeLine := by
    rw [List.length_map, p1.length_eq]; exact hz
  exact ⟨.ref _, upd H (s.heap.objs.size + 1) (.lst ((xs.mergeSort (dataLe false fun z : Str => PyData.str z)).map V.str)), I.laid (t' := s.toks) (fun _ _ => PyProof.Rows.sortedAll_old) (Nat.le_succ _) ⟨hlen2, out, ep, hv, he'⟩, rfl, q _ _ p1 p2 (I.hok.fresh (Nat.le_succ _))⟩
def rSortedDL : List V → Hp → VK → Prop := fun xs H Q => ∃ (a : Addr) (kvs : List (Key × V)) (ks : List Str), xs = [.ref a] ∧ Rd H a (.dK kvs) ∧ kvs.map (·.1) = ks.map Sum.inr ∧ ∀ ys p, ys.Perm ks → sortedS ys = true → H p = none → Q (.ref p) (upd H p (.lst (ys.map V.str)))
theorem call_sortedDL {X : Cx} (cm : X.calm = true) (hu : X.A.units + 64 < cLine) : CallR X (.builtin "sorted") rSortedDL := by
  intro pins s σ H as us Q I r ⟨a, kvs, ks, ea, hr, hk, q⟩
  subst ea
  rw [Vals.ref1 r]
  obtain ⟨few, low, ents, kv, da⟩ := dk_rd I.hok hr
  have ne : ents.length = ks.length := by rw [← List.length_map (f := Prod.fst), ← kv.keys, hk, List.length_map]
  obtain ⟨nx, at_⟩ := da.dictAt
  have lim : ents.length ≤ sizeLine := Nat.le_trans (Nat.le_of_eq kv.length.symm) few
  refine Calls.call_function_entry kind_sorted plain_sorted entry_sorted (args_sorted1 _) ?_
  unfold Builtin.«sorted»
  refine wpAny_bind (m := checkCount "sorted" 1 1 _) (wpAny_pure (wpAny_bind (kdu_collect (A := X.A.in1) (kdl_dict (knd := mixKind X.prog X.w) (kvs := ents) (ep := nx) low) (I.ok.hd cm) at_ lim fun h2 tk got kp hg => ?_)))
  have lg : got.toList.length = ks.length := by rw [Array.length_toList, hg.1, ne]
  have is : EachIs (fun (u : Value) (z : Str) => RelV (.str z) u) got.toList ks := each_ix lg fun j v z e1 e2 => by
    obtain ⟨k, x, m1, m2⟩ := hg.2 j v (by rw [← Array.getElem?_toList]; exact e1)
    have m3 : (ents.map Prod.fst)[j]? = some k := by rw [List.getElem?_map, m1]; rfl
    rw [← kv.keys, hk, List.getElem?_map, e2] at m3
    obtain rfl : (Sum.inr z : Key) = k := Option.some.inj m3
    obtain ⟨t, ev⟩ := Value.isStrOf_shape (x := z) (v := v) m2
    exact ⟨t, ev⟩
  have I1 : Inv X pins σ H { s with heap := h2, toks := tk } := I.kept kp
  refine wpAny_bind (wpAny_newList ?_ (by rw [lg, ← ne]; exact lim))
  have lay : (h2.push (seqObj "list" got.toList.toArray 0)).get? h2.objs.size = some (seqObj "list" got.toList.toArray 0) := Heap.get?_push_size _ rfl
  show wpAny _ _ _ _ _ { s with heap := h2.push (seqObj "list" got.toList.toArray 0), toks := tk }
  refine wpAny_bind (wpAny_holding (list_sort_data (s := { s with heap := h2.push (seqObj "list" got.toList.toArray 0), toks := tk }) (R := fun (u : Value) (z : Str) => RelV (.str z) u) (enc := fun z : Str => PyData.str z) lay is (each_reads is _) (strs_alike ks) (strs_sortable ks) (by rw [← ne]; exact lim) (fun b _ => ?_) fun out lo ho => ?_))
  · show X.A.units + 1 + 1 + 0 < cLine
    omega
  · obtain ⟨p1, p2⟩ := strs_sorted ks
    obtain ⟨ep, hs⟩ := sortedHeap_at (vs := got.toList) (out := out.toArray) lay
    have few2 : ((ks.mergeSort (dataLe false fun z : Str => PyData.str z)).map V.str).length ≤ sizeLine := by
      rw [List.length_map, p1.length_eq, ← ne]; exact lim
    refine wpAny_pure ⟨_, rfl, .ref h2.objs.size, upd H h2.objs.size (.lst ((ks.mergeSort (dataLe false fun z : Str => PyData.str z)).map V.str)), I1.laid (t' := tk) (fun b u eb => ?_) (Nat.le_refl _) ⟨few2, out, ep, str_each ho, hs⟩, rfl, q _ _ p1 p2 (I1.hok.fresh (Nat.le_refl _))⟩
    have lt : b < h2.objs.size := Heap.lt_size eb
    exact (sortedHeap_old (Nat.ne_of_lt lt) (by rw [size_push']; exact Nat.lt_succ_of_lt lt)).trans (Heap.get?_push_of_some _ eb)
end Ft
set_option Elab.async false
set_option linter.all false
set_option maxRecDepth 100000
set_option maxHeartbeats 1000000
set_option pp.maxSteps 3000
set_option pp.deepTerms.threshold 8
namespace Ft
open PySem L2
abbrev LibT := List (Str × Th)
def LibTAt (ok : Addr → Prop) (H : Hp) (m : Nat) (kvs : List (Key × V)) (lib : LibT) : Prop := Paired (fun (kv : Key × V) (x : Str × Th) => kv.1 = Sum.inr x.1 ∧ ThAt ok H m kv.2 x.2) kvs lib
theorem LibTAt.to {ok ok' : Addr → Prop} {H H' : Hp} {m : Nat} {kvs : List (Key × V)} {lib : LibT} (h : LibTAt ok H m kvs lib) (t : KeepT ok ok' H H') : LibTAt ok' H' m kvs lib := paired_imp h fun _ _ q => ⟨q.1, q.2.to t⟩
theorem permG {β : Type} {ys ks : List Str} (h : ys.Perm ks) : ∀ lib : List (Str × β), lib.map (·.1) = ks → ∃ rest : List (Str × β), rest.map (·.1) = ys ∧ rest.Perm lib := by
  induction h with
  | nil => intro lib e; exact ⟨[], rfl, by rw [List.map_eq_nil_iff.mp e]⟩
  | cons x h ih =>
    intro lib e
    cases lib with
    | nil => cases e
    | cons m lib =>
      rw [List.map_cons] at e
      obtain ⟨rest, h1, h2⟩ := ih lib (List.cons.inj e).2
      exact ⟨m :: rest, by rw [List.map_cons, h1, (List.cons.inj e).1], h2.cons m⟩
  | swap x y l =>
    intro lib e
    cases lib with
    | nil => cases e
    | cons m lib =>
      cases lib with
      | nil => cases (List.cons.inj e).2
      | cons m2 lib =>
        rw [List.map_cons, List.map_cons] at e
        have e1 := (List.cons.inj e).1
        have e2 := (List.cons.inj (List.cons.inj e).2).1
        have e3 := (List.cons.inj (List.cons.inj e).2).2
        exact ⟨m2 :: m :: lib, by rw [List.map_cons, List.map_cons, e1, e2, e3], List.Perm.swap _ _ _⟩
  | trans h1 h2 ih1 ih2 =>
    intro lib e
    obtain ⟨r2, e2, p2⟩ := ih2 lib e
    obtain ⟨r1, e1, p1⟩ := ih1 r2 e2
    exact ⟨r1, e1, p1.trans p2⟩
end Ft
set_option Elab.async false
set_option linter.all false
set_option maxRecDepth 100000
set_option maxHeartbeats 2000000
set_option pp.maxSteps 3000
set_option pp.deepTerms.threshold 8
namespace Ft
open PySem PySem.Spec PyProof.Rows PySem.W L2
theorem ints_alike : ∀ (p q : List Int), PySem.W.alikeAll (p.map PyData.int) (q.map PyData.int) = true
  | [], _ => by rw [List.map_nil]; unfold PySem.W.alikeAll; rfl
  | _ :: _, [] => by rw [List.map_nil, List.map_cons]; unfold PySem.W.alikeAll; rfl
  | x :: p, y :: q => by
    rw [List.map_cons, List.map_cons, PySem.W.alikeAll, ints_alike p q, PySem.W.alike]
    rfl
theorem spot_dp {K : PySem.W.Frag} {H : Hp} {v : V} {q : Str × List Int} (h : SpotAt H v q) : Dp K H v (spotD q) := by
  obtain ⟨T, pv, rfl, hT, pa, rfl, hp⟩ := h
  have go : ∀ l : List Int, DpAll K H (l.map V.int) (l.map PyData.int) := by
    intro l
    induction l with
    | nil => exact .nil
    | cons n l ih => exact .cons (.int n) ih
  exact .tup (SqT.of hT) (.cons (.str _) (.cons (.tup (SqT.of hp) (go _)) .nil))
theorem spots_alike (a b : Str × List Int) : PySem.W.alike (spotD a) (spotD b) = true := by
  unfold spotD
  rw [PySem.W.alike, PySem.W.alikeAll, PySem.W.alikeAll, PySem.W.alike, PySem.W.alike, ints_alike, PySem.W.alikeAll]
  rfl
theorem ints_depth : ∀ p : List Int, PyData.depthAll (p.map PyData.int) = 0
  | [] => by rw [List.map_nil, PyData.depthAll]
  | x :: p => by rw [List.map_cons, PyData.depthAll, PyData.depth, ints_depth p]; rfl
theorem spots_depth (a : Str × List Int) : (spotD a).depth ≤ 60 := by
  unfold spotD
  rw [PyData.depth, PyData.depthAll, PyData.depth, PyData.depthAll, PyData.depth, ints_depth, PyData.depthAll]
  decide
theorem spot_inj {a b : Str × List Int} (h : spotD a = spotD b) : a = b := by
  obtain ⟨z, p⟩ := a
  obtain ⟨y, q⟩ := b
  unfold spotD at h
  have h1 := List.cons.inj (PyData.tuple.inj h)
  have e1 : z = y := PyData.str.inj h1.1
  have e2 := PyData.tuple.inj (List.cons.inj h1.2).1
  have inj : ∀ {p q : List Int}, p.map PyData.int = q.map PyData.int → p = q := by
    intro p
    induction p with
    | nil => intro q e; cases q with
      | nil => rfl
      | cons _ _ => cases e
    | cons x p ih => intro q e; cases q with
      | nil => cases e
      | cons y q =>
        rw [List.map_cons, List.map_cons] at e
        have := List.cons.inj e
        rw [PyData.int.inj this.1, ih this.2]
  have e3 : p = q := inj e2
  rw [e1, e3]
theorem zip_fst {α β : Type} : ∀ {l : List α} {m : List β}, l.length = m.length → (l.zip m).map (·.1) = l
  | [], [], _ => rfl
  | [], _ :: _, h => by cases h
  | _ :: _, [], h => by cases h
  | x :: l, y :: m, h => by rw [List.zip_cons_cons, List.map_cons, zip_fst (Nat.succ.inj h)]
theorem zip_snd {α β : Type} : ∀ {l : List α} {m : List β}, l.length = m.length → (l.zip m).map (·.2) = m
  | [], [], _ => rfl
  | [], _ :: _, h => by cases h
  | _ :: _, [], h => by cases h
  | x :: l, y :: m, h => by rw [List.zip_cons_cons, List.map_cons, zip_snd (Nat.succ.inj h)]
theorem zip_paired {R : V → Str × List Int → Prop} : ∀ {ds : List V} {qs : List (Str × List Int)}, Paired R ds qs → ∀ b ∈ ds.zip (qs.map spotD), ∃ q, q ∈ qs ∧ b.2 = spotD q ∧ R b.1 q
  | _, _, .nil, b, hb => by cases hb
  | _, _, .cons (a := d) (b := q) r t, b, hb => by
    rw [List.map_cons, List.zip_cons_cons] at hb
    rcases List.mem_cons.mp hb with e | hb
    · rw [e]; exact ⟨q, by simp, rfl, r⟩
    · obtain ⟨q', h1, h2, h3⟩ := zip_paired t b hb
      exact ⟨q', by simp [h1], h2, h3⟩
theorem back_paired {R : V → Str × List Int → Prop} : ∀ {bs : List (V × PyData)} {qs : List (Str × List Int)}, bs.map (·.2) = qs.map spotD → (∀ b ∈ bs, ∃ q, b.2 = spotD q ∧ R b.1 q) → Paired R (bs.map (·.1)) qs
  | [], [], _, _ => .nil
  | [], _ :: _, h, _ => by cases h
  | _ :: _, [], h, _ => by cases h
  | b :: bs, q :: qs, h, hb => by
    rw [List.map_cons, List.map_cons] at h
    have h' := List.cons.inj h
    obtain ⟨q', e, r⟩ := hb b (by simp)
    have eq : q' = q := spot_inj (e.symm.trans h'.1)
    subst eq
    exact .cons r (back_paired h'.2 fun b hb' => hb b (by simp [hb']))
theorem spots_sortedG {bs : List (V × PyData)} {qs qS : List (Str × List Int)} (hb : bs.map (·.2) = qs.map spotD) (hp : qs.Perm qS) (ho : qS.Pairwise SLt) : (bs.mergeSort (dataLe false fun b : V × PyData => b.2)).map (·.2) = qS.map spotD := by
  have tot : TotalLe (dataLe false fun b : V × PyData => b.2) := sortLe_total (listOrd itemOrd) false _
  have hpw := sort_pairwise tot bs
  refine sorted_eq (lt := fun a b => dataLt a b = true) ?_ ?_ ?_
  · refine ((List.mergeSort_perm bs _).map (·.2)).trans ?_
    rw [hb]
    exact hp.map spotD
  · rw [List.pairwise_map]
    refine hpw.imp fun {a b} h hlt => ?_
    have h' : (!dataLt b.2 a.2) = true := h
    rw [hlt] at h'
    cases h'
  · rw [List.pairwise_map]
    exact ho
/-- sorted of a list of places in any order -/
theorem sort_spots {K : PySem.W.Frag} {H : Hp} {l : Addr} {zs : List V} {qs qS : List (Str × List Int)} (hl : H l = some (.lst zs)) (hz : Paired (SpotAt H) zs qs) (hp : qs.Perm qS) (ho : qS.Pairwise SLt) {Q : VK} (q : ∀ H' m es, Same H H' → H m = none → H' m = some (.lst es) → Paired (SpotAt H') es qS → Q (.ref m) H') : rSortedDD K [.ref l] H Q := by
  have ldq : zs.length = (qs.map spotD).length := by rw [List.length_map]; exact paired_len hz
  have key : ∀ b ∈ zs.zip (qs.map spotD), ∃ q, q ∈ qs ∧ b.2 = spotD q ∧ SpotAt H b.1 q := zip_paired hz
  refine ⟨l, zs.zip (qs.map spotD), rfl, SqL.of (by rw [zip_fst ldq]; exact hl), fun b hb => ?_, ?_, ?_, fun b hb => ?_, fun l2 nl2 => ?_⟩
  · obtain ⟨q, _, e, h⟩ := key b hb
    rw [e]; exact spot_dp h
  · rw [zip_snd ldq]
    intro d hd d' hd'
    obtain ⟨q, _, e⟩ := List.mem_map.mp hd
    obtain ⟨q', _, e'⟩ := List.mem_map.mp hd'
    rw [← e, ← e']; exact spots_alike q q'
  · rw [zip_snd ldq]
    refine .inl fun d hd => ?_
    obtain ⟨q, _, e⟩ := List.mem_map.mp hd
    exact ⟨_, _, e.symm⟩
  · obtain ⟨q, _, e, _⟩ := key b hb
    rw [e]; exact spots_depth q
  · have sN : Same H (upd H l2 (.lst ((((zs.zip (qs.map spotD))).mergeSort (PySem.W.dataLe false fun b : V × PyData => b.2)).map (·.1)))) := Same.new nl2
    refine q _ l2 _ sN nl2 upd_same (back_paired (spots_sortedG (zip_snd ldq) hp ho) fun b hb => ?_)
    have hb' : b ∈ zs.zip (qs.map spotD) := (List.mergeSort_perm _ _).mem_iff.mp hb
    obtain ⟨q, _, e, h⟩ := key b hb'
    exact ⟨q, e, h.to fun b xs e => sN _ _ e⟩
theorem sortLib (lib : Lib) : ∃ libS : Lib, libS.Perm lib ∧ sortedS (libS.map (·.1)) = true := by
  obtain ⟨h1, h2⟩ := strs_sorted (lib.map (·.1))
  obtain ⟨rest, e, p⟩ := permG h1 lib rfl
  exact ⟨rest, p, by rw [e]; exact h2⟩
section
variable {P : PySem.Program} {w : World} {K : PySem.W.Frag} {mg : Str → Option Value} {base : Heap}
abbrev sLPlaces : Stmt := topS 44
theorem scLPlaces : FnScope ["_law_library_here", "_law_one"] ["_law_library_here"] (defScope sLPlaces) := ⟨rfl, rfl, rfl, by decide +kernel, rfl, by decide +kernel, by decide +kernel⟩
def spLPlaces : Sp := fun vs H Q _ => ∃ (dl : Addr) (kvs : List (Key × V)) (lib : Lib) (ok : Addr → Prop) (kk : Bool → Bool → Prop), vs = [.ref dl] ∧ H dl = some (.dK kvs) ∧ LibAt ok kk H kvs lib ∧ lib.length ≤ 4 ∧ lib ≠ [] ∧ (lib.map (·.1)).Nodup ∧ (∀ m ∈ lib, m.2.length ≤ 24 ∧ (∀ r ∈ m.2, RowOk 3 false r) ∧ m.1.length ≤ 1000) ∧
  ∀ H' m es libS, Same H H' → H m = none → H' m = some (.lst es) → Paired (SpotAt H') es (spotsL libS) → libS.Perm lib → sortedS (libS.map (·.1)) = true → Q (.ref m) H'
theorem ok_LPlaces {f : Addr} {fd : FuncData} {k : Nat} (F : Fun K "_law_places" "_law_places" sLPlaces f fd) (B : Bl mg) (hk : 5 ≤ k) (gLSpots : Own P w K mg base 5 "_law_spots" ["_law_module", "_law_rows", "_law_path"] (spLSpots 3)) : FnOk P w K mg base CX0 (k + 1) f fd ["_law_library_here"] spLPlaces := by
  refine F.ok scLPlaces (fun vs H Q E h => ?_) (fun cdv A outer s H vs Q E hr h => ?_)
  · obtain ⟨dl, kvs, lib, ok, kk, rfl, _⟩ := h
    rfl
  obtain ⟨dl, kvs, lib, ok, kk, rfl, hdl, hlib, few, lne, nd, hrs, q⟩ := h
  refine ⟨_, (pss_one (ps_ret (pe_callB (cr_sortedDD hr.units) (by rfl) B.sorted (by decide +kernel) (pa_cons (pe_callB (cr_sumL rfl) (by rfl) B.sum (by decide +kernel) (pa_cons (pe_lock (pe_lc (own := [("_law_one", 1)]) (g := (gName 1)) (tt := tYes) (by rfl) scLPlaces.nd (pi_keys (pv 0)) (blkOk_by (own := [("_law_one", 1)]) (N := ["_law_library_here", "_law_one"]) (sc := defScope sLPlaces) (by decide +kernel)) (fun _ _ _ _ _ => (pg_name (i := 1) scLPlaces.nd rfl (by first | exact Or.inl rfl | exact Or.inr rfl))) (fun _ _ _ _ _ => pts_nil) (fun _ _ _ _ _ => (pe_own gLSpots (hr.mono (by omega)) (by rfl) (pa_cons (pv 1) (pa_cons (pe_dget (hu_of hr) (pv 0) (pv 1) (fun _ _ => rfl)) (pa_cons (pe_tup pa_nil) pa_nil))))))) (pa_cons (pe_lst pa_nil) pa_nil))) pa_nil)))), ?_⟩
  refine ⟨dl, .dK kvs, hdl, trivial, fun od => ?_⟩
  have hdG : (upd H dl (.frz od (.dK kvs))) dl = some (.frz od (.dK kvs)) := upd_same
  have fG : Fr (· ≠ dl) H (upd H dl (.frz od (.dK kvs))) := Fr.put fun z => z rfl
  have nG : ∀ y, (upd H dl (.frz od (.dK kvs))) y = none → H y = none := fun y e => by
    by_cases c : y = dl
    · rw [c, upd_same] at e; cases e
    · rw [upd_ne c] at e; exact e
  have hlibG : LibAt ok kk (upd H dl (.frz od (.dK kvs))) kvs lib := hlib.to fun x kd xs k e => ⟨k, by rw [upd_ne (fun z => by rw [z, hdl] at e; cases kd <;> cases e)]; exact e⟩
  generalize upd H dl _ = G at *
  refine ⟨_, rfl, dl, od, rfl, .inl ⟨kvs, hdG, fun L nL => ?_⟩⟩
  have hkeys : kvs.map (·.1) = (lib.map (·.1)).map Sum.inr := libAt_keys hlib
  have kvd : (kvs.map (·.1)).Nodup := by rw [hkeys]; exact List.Pairwise.map _ (fun _ _ h e => h (Sum.inr.inj e)) nd
  have lkz : kvs.length = lib.length := libAt_len hlib
  refine lc_it walk_keys (fun i H' => Same G H' ∧ ∃ (ps : List Addr) (xss : List (List V)), H' L = some (.lst (ps.map V.ref)) ∧ Paired (fun p xs => p ≠ L ∧ H' p = some (.lst xs)) ps xss ∧ Paired (fun xs m => Paired (SpotAt H') xs (spotsM m)) xss (lib.take i))
    ⟨Same.new nL, [], [], upd_same, .nil, .nil⟩ (fun i H' _ ⟨sm, _⟩ => sm _ _ hdG) ?_ ?_
  · rintro i x H1 H2 hi ⟨sm, ps, xss, hL, hps, hxs⟩ ⟨rfl, kx, vx, hkv, rfl⟩
    obtain ⟨⟨z, rs⟩, hm, ekx, hrows⟩ := paired_get hlibG hkv
    obtain rfl : kx = Sum.inr z := ekx
    obtain ⟨lm, rm, zl⟩ := hrs _ (List.mem_of_getElem? hm)
    have dg : DGet H2 dl (.str z) (some vx) := by rw [← valV_at kvd hkv]; exact .inl ⟨kvs, Sum.inr z, .inr ⟨_, sm _ _ hdG⟩, rfl, rfl⟩
    refine ⟨rfl, _, rfl, _, rfl, _, rfl, dl, vx, rfl, dg, Nat.zero_le _, fun t nt => ?_⟩
    have st : Same H2 (upd H2 t (.tup [])) := Same.new nt
    have ht : (upd H2 t (.tup [])) t = some (.tup []) := upd_same
    generalize upd H2 t _ = H3 at *
    refine ⟨z, vx, .ref t, ok, kk, false, rs, [], rfl, hrows.to (Keep.fr (Fr.same (Same.trans sm st)) fun _ k => k), lm, rm, by decide, ⟨t, rfl, ht⟩, by decide, fun H4 u us s4 nu hu hus => ?_⟩
    have s24 := Same.trans st s4
    have hL4 := s24 _ _ hL
    have uL : u ≠ L := fun e => by rw [e, st _ _ hL] at nu; cases nu
    have lps : ps.length ≤ 4 := by
      have e1 := paired_len hps
      have e2 := paired_len hxs
      rw [List.length_take] at e2
      omega
    have tp : ∀ b xs, H4 b = some (.tup xs) → (upd H4 L (.lst (ps.map V.ref ++ [.ref u]))) b = some (.tup xs) := fun b xs e => by rw [upd_ne (ne_of e hL4 (fun z => nomatch z))]; exact e
    refine ⟨_, hL4, small (by rw [List.length_map]; omega), Same.upN (Same.trans sm s24) nL, ps ++ [u], xss ++ [us], by rw [upd_same, List.map_append]; rfl, paired_app ⟨uL, by rw [upd_ne uL]; exact hu⟩ (paired_imp hps fun p xs r => ⟨r.1, by rw [upd_ne r.1]; exact s24 _ _ r.2⟩), ?_⟩
    have et : lib.take (i + 1) = lib.take i ++ [(z, rs)] := by rw [List.take_add_one, hm]; rfl
    rw [et]
    have hus2 : Paired (SpotAt (upd H4 L (.lst (ps.map V.ref ++ [.ref u])))) us (spotsM (z, rs)) := show Paired _ us (spW z (walkL 3 [] rs)) from paired_imp hus fun v q h => SpotAt.to h fun b xs e => tp _ _ e
    exact paired_app (R := fun xs m => Paired (SpotAt (upd H4 L (.lst (ps.map V.ref ++ [.ref u])))) xs (spotsM m)) hus2 (paired_imp hxs fun xs m h => paired_imp h fun v q h => SpotAt.to h fun b xs e => tp _ _ (s24 _ _ e))
  · rintro H1 ⟨sm, ps, xss, hL, hps, hxs⟩
    rw [lkz, List.take_length] at hxs
    refine ⟨sm _ _ hdG, ?_⟩
    have Ld : L ≠ dl := fun e => by rw [e, hdG] at nL; cases nL
    have k1 : ∀ y o, y ≠ dl → H1 y = some o → (upd H1 dl (.dK kvs)) y = some o := fun y o c e => by rw [upd_ne c]; exact e
    have s1 : Same H (upd H1 dl (.dK kvs)) := fun b o e => by
      by_cases c : b = dl
      · rw [c, upd_same, ← hdl, ← c, e]
      · rw [upd_ne c]; exact sm _ _ (fG _ _ c e)
    have hps1 : Paired (fun p xs => (upd H1 dl (.dK kvs)) p = some (.lst xs)) ps xss := paired_imp hps fun p xs r => k1 _ _ (fun e => by rw [e, sm _ _ hdG] at r; cases r.2) r.2
    have hxs1 : Paired (fun xs m => Paired (SpotAt (upd H1 dl (.dK kvs))) xs (spotsM m)) xss lib := paired_imp hxs fun xs m h => paired_imp h fun v q h => h.to fun b xs e => k1 _ _ (fun z => by rw [z, sm _ _ hdG] at e; cases e) e
    have hL1 := k1 _ _ Ld hL
    generalize upd H1 dl _ = H2 at *
    refine ⟨Nat.zero_le _, fun e0 ne0 => ?_⟩
    have s2 : Same H2 (upd H2 e0 (.lst [])) := Same.new ne0
    have he0 : (upd H2 e0 (.lst [])) e0 = some (.lst []) := upd_same
    generalize upd H2 e0 _ = H3 at *
    have lxs := paired_len hxs1
    have hne : xss ≠ [] := fun e => by rw [e] at hxs1; cases hxs1; exact lne rfl
    have hflat : ∀ {H' : Hp} {xss : List (List V)} {lib : Lib}, Paired (fun xs m => Paired (SpotAt H') xs (spotsM m)) xss lib → Paired (SpotAt H') xss.flatten (spotsL lib) := fun {H' xss lib} h => by
      induction h with
      | nil => exact .nil
      | cons r t ih =>
        rw [List.flatten_cons]
        show Paired _ _ (List.flatMap spotsM (_ :: _))
        rw [List.flatMap_cons]
        exact paired_cat r ih
    have hz2 := hflat hxs1
    have lz : xss.flatten.length ≤ 11000000 := by
      rw [paired_len hz2]
      have h1 : (spotsL lib).length ≤ lib.length * (24 * cW 3) := flat_len fun m hm => by
        unfold spotsM
        rw [List.length_map]
        refine Nat.le_trans (List.length_filter_le _ _) ?_
        obtain ⟨lm, rm, _⟩ := hrs m hm
        exact walkL_len lm rm []
      have c3 : cW 3 = 112945 := by decide
      rw [c3] at h1
      have h2 := Nat.mul_le_mul_right (24 * 112945) few
      omega
    refine ⟨L, e0, ps, xss, rfl, SqL.of (s2 _ _ hL1), he0, paired_imp hps1 fun p xs r => s2 _ _ r, hne, by rw [sizeLine_eq]; omega, fun l nl => ?_⟩
    have s3 : Same H3 (upd H3 l (.lst xss.flatten)) := Same.new nl
    have hl : (upd H3 l (.lst xss.flatten)) l = some (.lst xss.flatten) := upd_same
    generalize upd H3 l _ = H4 at *
    have s14 := Same.trans s1 (Same.trans s2 s3)
    obtain ⟨libS, pS, sS⟩ := sortLib lib
    have ndS : (libS.map (·.1)).Nodup := (pS.map _).nodup_iff.mpr nd
    refine sort_spots hl (paired_imp hz2 fun v q h => h.to fun b xs e => s3 _ _ (s2 _ _ e)) (spotsL_perm pS.symm) (spotsL_order sS ndS) fun H5 m es s5 nm hm hes => ?_
    exact q H5 m es libS (Same.trans s14 s5) (Same.free s14 nm) hm hes pS sS
end
end Ft
set_option Elab.async false
set_option linter.all false
set_option maxRecDepth 100000
set_option maxHeartbeats 1000000
set_option pp.maxSteps 3000
set_option pp.deepTerms.threshold 8
namespace Ft
open PySem L2
/-- a late set -/
def LtAt (H : Hp) (CL x pg l : Addr) : Prop := ∃ dx, H x = some (.ins CL dx (ltF (.ref pg) (.ref l)))
theorem LtAt.same {H H' : Hp} {CL x pg l : Addr} (h : LtAt H CL x pg l) (s : Same H H') : LtAt H' CL x pg l := by
  obtain ⟨dx, e⟩ := h
  exact ⟨dx, s _ _ e⟩
section
variable {P : PySem.Program} {w : World} {K : PySem.W.Frag} {mg : Str → Option Value} {base : Heap}
abbrev sLateLen : Stmt := inClass (topS 10) 6
theorem scLateLen : FnScope ["self"] ["self"] (defScope sLateLen) := ⟨rfl, rfl, rfl, by decide +kernel, rfl, by decide +kernel, by decide +kernel⟩
def spLateLen (CL : Addr) : Sp := fun vs H Q _ => ∃ (x pg l : Addr) (pls : List Pl), vs = [.ref x] ∧ LtAt H CL x pg l ∧ PlsAt H l pls ∧ Q (.int pls.length) H
theorem ok_LateLen {f CL : Addr} {fd : FuncData} {k : Nat} (F : Fun K "__len__" "Late.__len__" sLateLen f fd) (B : Bl mg) (LC : LtCls K CL) : FnOk P w K mg base CX0 (k + 1) f fd ["self"] (spLateLen CL) := by
  refine F.ok scLateLen (fun vs H Q E h => ?_) (fun cdv A outer s H vs Q E hr h => ?_)
  · obtain ⟨x, pg, l, pls, rfl, _⟩ := h
    rfl
  obtain ⟨x, pg, l, pls, rfl, ⟨dx, hx⟩, ⟨ps, hl, hps⟩, q⟩ := h
  refine ⟨_, (pss_one (ps_ret (pe_callB call_len_seq (by rfl) B.len (by decide +kernel) (pa_cons (pe_fld (pv 0) rfl) pa_nil)))), ?_⟩
  refine ⟨_, rfl, x, CL, dx, _, _, rfl, hx, LC.cl, LC.na _ (by simp), rfl, l, _, rfl, .inl (SqL.of hl), ?_⟩
  rw [List.length_map, paired_len hps]
  exact q
end
end Ft
set_option Elab.async false
set_option linter.all false
set_option maxRecDepth 100000
set_option maxHeartbeats 1000000
set_option pp.maxSteps 3000
set_option pp.deepTerms.threshold 8
namespace Ft
open PySem L2
/-- a def that catches what its body raises -/
theorem fn_calm {P : PySem.Program} {w : World} {K : PySem.W.Frag} {mg : Str → Option Value} {base : Heap} {k : Nat} {f : Addr} {fd : FuncData} {ps : List Str} {sp : Sp} (h : FnOk P w K mg base (L2N.CX P w) k f fd ps sp) (he : ∀ vs H Q E, sp vs H Q E → sp vs H Q E0) : FnOk P w K mg base CX0 k f fd ps sp :=
  ⟨h.len, fun A outer s H args us vs Q E hr e0 hb r hs => codeAny_mono (h.run A outer s H args us vs Q E0 hr e0 hb r (he vs H Q E hs)) fun rr s' hq => match rr, hq with
    | .error e, hq => by
      obtain ⟨_, _, _, _, _, _, _, _, _, _, _, _, hE⟩ := hq
      exact hE.elim
    | .ok (.ret _), hq => hq
    | .ok .next, hq => hq
    | .ok .brk, hq => hq
    | .ok .cont, hq => hq⟩
section
variable {P : PySem.Program} {w : World} {K : PySem.W.Frag} {mg : Str → Option Value} {base : Heap}
abbrev sLSome : Stmt := topS 49
theorem scLSome : FnScope ["_law_source_here", "_law_things", "_law_thing"] ["_law_source_here", "_law_things"] (defScope sLSome) := ⟨rfl, rfl, rfl, by decide +kernel, rfl, by decide +kernel, by decide +kernel⟩
def spLSome : Sp := fun vs H Q _ => ∃ (a l : Addr) (n : Int) (ps : List Addr) (pls : List Pl), vs = [.ref a, .ref l] ∧ Src H a n ∧ n < 2 ^ 38 ∧ l ≠ a ∧ H l = some (.lst (ps.map V.ref)) ∧ Paired (PlAt H) ps pls ∧ pls.length ≤ 100 ∧
  ∀ H' m some_ n', Fr (· ≠ a) H H' → Src H' a n' → n ≤ n' → n' ≤ n + 100 → H m = none → PlsAt H' m some_ → some_.Sublist pls → Q (.ref m) H'
theorem ok_LSome {f : Addr} {fd : FuncData} {k : Nat} (F : Fun K "_law_some" "_law_some" sLSome f fd) (B : Bl mg) (hk : 1 ≤ k) (gLDraw : Own P w K mg base 1 "_law_draw" ["_law_source_here", "_law_many"] spLDraw) : FnOk P w K mg base CX0 (k + 1) f fd ["_law_source_here", "_law_things"] spLSome := by
  refine F.ok scLSome (fun vs H Q E h => ?_) (fun cdv A outer s H vs Q E hr h => ?_)
  · obtain ⟨a, l, n, ps, pls, rfl, _⟩ := h
    rfl
  obtain ⟨a, l, n, ps, pls, rfl, sr, hn, la, hl, hps, few, q⟩ := h
  refine ⟨_, (pss_one (ps_ret (pe_lc (own := [("_law_thing", 2)]) (g := (gName 2)) (by rfl) scLSome.nd (pi_list (pv 1)) (blkOk_by (own := [("_law_thing", 2)]) (N := ["_law_source_here", "_law_things", "_law_thing"]) (sc := defScope sLSome) (by decide +kernel)) (fun _ _ _ _ _ => (pg_name (i := 2) scLSome.nd rfl (by first | exact Or.inl rfl | exact Or.inr rfl))) (fun _ _ _ _ _ => (pts_one (pt_cmpR op_eq (pe_own gLDraw (hr.mono (by omega)) (by rfl) (pa_cons (pv 0) (pa_cons pe_int pa_nil))) pe_int (nomark _)))) (fun _ _ _ _ _ => (pv 2))))), ?_⟩
  have lps := paired_len hps
  have oka : ∀ {t : Addr} {p : Pl}, PlAt H t p → t ≠ a := fun {t p} ⟨b, h1, h2⟩ e => by
    obtain ⟨d, s, e', _⟩ := sr
    rw [e, e'] at h1
    cases h1
  refine ⟨_, rfl, l, rfl, ⟨_, SqL.of hl⟩, fun L nL => ?_⟩
  have La : L ≠ a := sr.nn nL
  refine lc_it walk_list (fun j H' => Fr (· ≠ a) H H' ∧ ∃ (ws : List Addr) (qs : List Pl) (n' : Int), H' L = some (.lst (ws.map V.ref)) ∧ Paired (PlAt H') ws qs ∧ qs.Sublist (pls.take j) ∧ Src H' a n' ∧ n ≤ n' ∧ n' ≤ n + j)
    ⟨Fr.new nL, [], [], n, upd_same, .nil, List.nil_sublist _, sr.new nL, by omega, by omega⟩ (fun j H' _ ⟨sm, _⟩ => SqL.of (sm _ _ la hl)) ?_ ?_
  · rintro j v H3 H4 hj ⟨f3, ws, qs, n', hL, hws, sub, sr3, n0, n1⟩ ⟨rfl, hy'⟩
    rw [List.length_map] at hj
    rw [List.getElem?_map] at hy'
    obtain ⟨t, ht, rfl⟩ := Option.map_eq_some_iff.mp hy'
    obtain ⟨pl, hpl, hpt⟩ := paired_get hps ht
    have et : pls.take (j + 1) = pls.take j ++ [pl] := by rw [List.take_add_one, hpl]; rfl
    refine ⟨rfl, _, rfl, a, 2, n', rfl, sr3, by omega, by decide, by decide, fun H5 d f5 sr5 d0 d1 => ⟨rfl, _, rfl, ?_⟩⟩
    have f05 := f3.trans f5
    have hL5 := f5 _ _ La hL
    have keep : ∀ {t : Addr} {p : Pl}, PlAt H4 t p → PlAt H5 t p := fun {t p} ⟨b, h1, h2⟩ => by
      have ne : ∀ {y : Addr} {xs : List V}, H4 y = some (.tup xs) → y ≠ a := fun {y xs} h e => by
        obtain ⟨d, s, e', _⟩ := sr3
        rw [e, e'] at h
        cases h
      exact ⟨b, f5 _ _ (ne h1) h1, f5 _ _ (ne h2) h2⟩
    have lws : ws.length ≤ 100 := by
      rw [paired_len hws]
      have := sub.length_le
      rw [List.length_take] at this
      omega
    cases hd : decide (V.int d = V.int 0) with
    | true =>
      refine iteT ⟨_, rfl, _, hL5, small (by rw [List.length_map]; omega), f05.upN nL, ws ++ [t], qs ++ [pl], n' + 1, by rw [upd_same, List.map_append]; rfl, ?_, by rw [et]; exact sub.append (List.Sublist.refl _), sr5.ne La.symm, by omega, by omega⟩
      have tp : TupS H5 (upd H5 L (.lst (ws.map V.ref ++ [.ref t]))) := TupS.put hL5 (by intro xs z; cases z)
      have hpt5 : PlAt H5 t pl := by
        obtain ⟨b, h1, h2⟩ := hpt
        have ne : ∀ {y : Addr} {xs : List V}, H y = some (.tup xs) → y ≠ a := fun {y xs} h e => by
          obtain ⟨d, s, e', _⟩ := sr
          rw [e, e'] at h
          cases h
        exact ⟨b, f05 _ _ (ne h1) h1, f05 _ _ (ne h2) h2⟩
      exact paired_app (hpt5.to fun b xs e => tp _ _ e) (paired_imp hws fun _ _ q => (keep q).to fun b xs e => tp _ _ e)
    | false =>
      exact iteF ⟨f05, ws, qs, n' + 1, hL5, paired_imp hws fun _ _ q => keep q, by rw [et]; exact sub.trans (List.sublist_append_left _ _), sr5, by omega, by omega⟩
  · rintro H3 ⟨f3, ws, qs, n', hL, hws, sub, sr3, n0, n1⟩
    rw [List.length_map, lps] at n1
    rw [List.length_map, lps, List.take_length] at sub
    exact q H3 L qs n' f3 sr3 n0 (by omega) nL ⟨ws, hL, hws⟩ sub
end
end Ft
set_option Elab.async false
set_option linter.all false
set_option maxRecDepth 100000
set_option maxHeartbeats 1000000
set_option pp.maxSteps 3000
set_option pp.deepTerms.threshold 8
namespace Ft
open PySem L2
/-- a dict of a text and of a tuple, in this order -/
def OddE (p : Addr) (z : Str) (t : Addr) : HO := .ext fun h => (p == sysModules) = false ∧ ∃ (o : Obj) (ep : Nat) (z1 : Tok) (v1 v2 : Value) (h1 h2 : Int), h.get? p = some o ∧ o.ExactDict ∧ o.data = .dict #[⟨h1, .str z z1, v1⟩, ⟨h2, .ref t, v2⟩] ep
section
variable {prog : Program} {w : World} {A : Around} {E : Value → Shared → Prop} {s : Shared}
theorem quiet_among {a : Addr} {k : List Key} {stored : List Value} {Q : Bool → Shared → Prop} (hk : (tupleKind (mixKind prog w)).is s.heap k a) (hst : ∀ v ∈ stored, ∃ z t, v = .str z t) (h : Q false s) : wpAny (model prog w) A (tableMayTell (.ref a) stored) Q E s := by
  unfold tableMayTell
  split
  · exact wpAny_pure h
  · refine wpAny_bind ((tupleKind (mixKind prog w)).quiet hk ?_)
    simp only [Bool.not_true, Bool.false_eq_true, if_false]
    refine wpAny_bind ?_
    refine wpAny_forIn_list _ (fun rest r s' => s' = s ∧ r = (none, ()) ∧ ∀ v ∈ rest, ∃ z t, v = .str z t) _ ?_ ?_ _ _ ⟨rfl, rfl, hst⟩
    · rintro x rest r s' ⟨rfl, rfl, hr⟩
      obtain ⟨z, t, rfl⟩ := hr x List.mem_cons_self
      refine wpAny_bind (QuietAt.byValue (w := w) rfl A E _ ?_)
      simp only [Bool.not_true, Bool.false_eq_true, if_false]
      exact wpAny_pure ⟨rfl, rfl, fun v hv => hr v (List.mem_cons_of_mem _ hv)⟩
    · rintro r s' ⟨rfl, rfl, _⟩
      exact wpAny_pure h
/-- a tuple is not found among texts -/
theorem find_ref {d a : Addr} {o : Obj} {es : Array DictEntry} {ep : Nat} {k : List Key} {its : Array Value} {h : Int} {Q : Option Nat → Shared → Prop} (hu : A.units < cLine) (ho : s.heap.get? d = some o) (hd : o.data = .dict es ep) (hs : ∀ e ∈ es, ∃ z t, e.key = .str z t) (hk : (tupleKind (mixKind prog w)).is s.heap k a) (ht : s.heap.IsTuple a its) (q : Q none s) : wpAny (model prog w) A (dictFind d (.ref a) h) Q E s := by
  have hany : ¬ (es.any fun e => e.key == Value.ref a && e.hash != h) = true := by
    rw [← Array.any_toList, List.any_eq_true]
    rintro ⟨e, hin, hc⟩
    obtain ⟨z, t, hkey⟩ := hs e (Array.mem_toList_iff.mp hin)
    rw [hkey] at hc
    simp at hc
  have hst : ∀ v ∈ (placesWithHash es.size (fun i => es[i]?.map (·.hash)) h).filterMap (fun i => es[i]?.map (·.key)), ∃ z t, v = .str z t := by
    intro v hv
    obtain ⟨i, _, hi⟩ := List.mem_filterMap.mp hv
    cases hei : es[i]? with
    | none => rw [hei] at hi; cases hi
    | some e =>
      rw [hei] at hi
      obtain rfl : e.key = v := by simpa using hi
      exact hs e (Array.mem_of_getElem? hei)
  have hone : ¬ (((placesWithHash es.size (fun i => es[i]?.map (·.hash)) h).filterMap (fun i => es[i]?.map (·.key))) == [Value.ref a]) = true := by
    intro e
    have e := eq_of_beq e
    obtain ⟨z, t, e2⟩ := hst (.ref a) (by rw [e]; simp)
    cases e2
  unfold dictFind
  refine wpAny_holding ?_
  refine wpAny_bind (wpAny_dictEntries ho hd ?_)
  dsimp only
  rw [if_neg (show ¬ ((Value.ref a :: (placesWithHash es.size (fun i => es[i]?.map (·.hash)) h).filterMap (fun i => es[i]?.map (·.key))).all carriedByValue) = true by simp [carriedByValue])]
  rw [if_neg hany, if_neg hone]
  refine wpAny_bind (quiet_among hk hst ?_)
  rw [if_neg (by simp)]
  refine wpAny_bind ?_
  refine wpAny_forIn_list _ (fun rest b s' => s' = s ∧ b = (none, none)) _ ?_ ?_ _ _ ⟨rfl, rfl⟩
  · rintro x rest b s' ⟨rfl, rfl⟩
    cases he : es[x]? with
    | none => exact wpAny_pure ⟨rfl, rfl⟩
    | some e =>
      obtain ⟨z, t, hkey⟩ := hs e (Array.mem_of_getElem? he)
      dsimp only
      by_cases hh : (e.hash == h) = true
      · rw [if_pos hh, hkey]
        refine wpAny_bind (wpAny_dictEpoch ho hd (wpAny_bind (SeqAt.EqAt.str_tuple z t ht hu _ _ _ _ (wpAny_bind (wpAny_dictEpoch ho hd ?_)))))
        show wpAny _ _ (if (ep != ep) = true then _ else _) _ E _
        rw [if_neg (by simp)]
        simp only [Bool.false_eq_true, if_false]
        refine wpAny_bind (wpAny_rule ?_)
        first
          | exact wpAny_pure ⟨rfl, rfl⟩
          | exact wpAny_bind (wpAny_pure (wpAny_pure ⟨rfl, rfl⟩))
      · rw [if_neg hh]
        exact wpAny_pure ⟨rfl, rfl⟩
  · rintro b s' ⟨rfl, rfl⟩
    exact wpAny_pure q
/-- .. and so it is stored behind them -/
theorem set_ref {d a : Addr} {o : Obj} {es : Array DictEntry} {ep : Nat} {k : List Key} {its : Array Value} {x : Value} {Q : Unit → Shared → Prop} (hu : A.units + 8 < cLine) (ho : s.heap.get? d = some o) (hx : o.ExactDict) (hd : o.data = .dict es ep) (hs : ∀ e ∈ es, ∃ z t, e.key = .str z t) (hz : es.size ≤ sizeLine) (hk : (tupleKind (mixKind prog w)).is s.heap k a) (ht : s.heap.IsTuple a its)
    (hQ : ∀ h' o' hh tk, h'.get? d = some o' → o'.ExactDict → o'.data = .dict (es.push ⟨hh, .ref a, x⟩) (ep + 1) → Heap.SameBut d s.heap h' → Q () { s with heap := h', toks := tk }) : wpAny (model prog w) A (dictSet d (.ref a) x) Q E s := by
  unfold dictSet
  refine wpAny_holding ?_
  refine wpAny_bind ((tupleKind (mixKind prog w)).pyHash (by show A.units < cLine; omega) hk ?_)
  unfold dictSetHashed
  refine wpAny_holding ?_
  refine wpAny_bind (find_ref (s := { s with toks := s.toks + _ }) (by omega) ho hd hs hk ht ?_)
  exact wpAny_bind (wpAny_rule (wpAny_updateDictKeys (hz := hz) (s := { s with toks := s.toks + _ }) ho hd (hQ _ _ _ _ (Heap.get?_update_self _ ho (Obj.isFreed_of_dict (Obj.data_mapDictKeys hd _))) (hx.mapDictKeys _) (Obj.data_mapDictKeys hd _) (Heap.SameBut.update ..))))
end
end Ft
set_option Elab.async false
set_option linter.all false
set_option maxRecDepth 100000
set_option maxHeartbeats 1000000
set_option pp.maxSteps 3000
set_option pp.deepTerms.threshold 8
namespace Ft
open PySem L2
def kdT : Bool → List Th → Bool
  | true, _ => true
  | false, .at _ :: _ => true
  | false, .sq (.sq _ :: _) :: _ => true
  | false, _ => false
def ThL (ok : Addr → Prop) (H : Hp) : Nat → V → Th → Prop
  | _, v, .at x => v = x ∧ smallT x = true
  | _, v, .dc => ∃ a kvs, v = .ref a ∧ ok a ∧ H a = some (.dK kvs)
  | m + 1, v, .sq ts => ∃ a kd xs, v = .ref a ∧ ok a ∧ H a = some (mkO kd xs) ∧ ts.length ≤ 100 ∧ kdT kd ts = true ∧ Paired (ThL ok H m) xs ts
  | 0, _, .sq _ => False
theorem thL_at {ok : Addr → Prop} {H : Hp} {m : Nat} {v x : V} (h : ThL ok H m v (.at x)) : v = x ∧ smallT x = true := by cases m <;> exact h
theorem thL_at' {ok : Addr → Prop} {H : Hp} {m : Nat} {x : V} (h : smallT x = true) : ThL ok H m x (.at x) := by cases m <;> exact ⟨rfl, h⟩
theorem thL_dc {ok : Addr → Prop} {H : Hp} {m : Nat} {v : V} (h : ThL ok H m v .dc) : ∃ a kvs, v = .ref a ∧ ok a ∧ H a = some (.dK kvs) := by cases m <;> exact h
theorem thL_dc' {ok : Addr → Prop} {H : Hp} {m : Nat} {a : Addr} {kvs : List (Key × V)} (k : ok a) (h : H a = some (.dK kvs)) : ThL ok H m (.ref a) .dc := by cases m <;> exact ⟨a, kvs, rfl, k, h⟩
theorem thL_sq {ok : Addr → Prop} {H : Hp} {m : Nat} {v : V} {ts : List Th} (h : ThL ok H m v (.sq ts)) : ∃ m' a kd xs, m = m' + 1 ∧ v = .ref a ∧ ok a ∧ H a = some (mkO kd xs) ∧ ts.length ≤ 100 ∧ kdT kd ts = true ∧ Paired (ThL ok H m') xs ts := by
  cases m with
  | zero => exact h.elim
  | succ m =>
    obtain ⟨a, kd, xs, e, k, ha, hl, hk, hp⟩ := h
    exact ⟨m, a, kd, xs, rfl, e, k, ha, hl, hk, hp⟩
theorem ThL.to {ok ok' : Addr → Prop} {H H' : Hp} (t : KeepT ok ok' H H') : ∀ {m : Nat} {v : V} {x : Th}, ThL ok H m v x → ThL ok' H' m v x := by
  intro m
  induction m with
  | zero =>
    intro v x h
    cases x with
    | «at» x => exact h
    | dc =>
      obtain ⟨a, kvs, e, k, ha⟩ := h
      obtain ⟨k', e'⟩ := t a (.dK kvs) k (fun ps z => nomatch z) ha
      exact ⟨a, kvs, e, k', e'⟩
    | sq ts => exact h.elim
  | succ m ih =>
    intro v x h
    cases x with
    | «at» x => exact h
    | dc =>
      obtain ⟨a, kvs, e, k, ha⟩ := h
      obtain ⟨k', e'⟩ := t a (.dK kvs) k (fun ps z => nomatch z) ha
      exact ⟨a, kvs, e, k', e'⟩
    | sq ts =>
      obtain ⟨a, kd, xs, e, k, ha, hl, hk, hp⟩ := h
      obtain ⟨k', e'⟩ := t _ _ k mkO_nt ha
      exact ⟨a, kd, xs, e, k', e', hl, hk, paired_imp hp fun _ _ q => ih q⟩
theorem ThL.th {ok : Addr → Prop} {H : Hp} : ∀ {m : Nat} {v : V} {x : Th}, ThL ok H m v x → ThAt ok H m v x := by
  intro m
  induction m with
  | zero =>
    intro v x h
    cases x with
    | «at» x => exact h
    | dc => exact h
    | sq ts => exact h.elim
  | succ m ih =>
    intro v x h
    cases x with
    | «at» x => exact h
    | dc => exact h
    | sq ts =>
      obtain ⟨a, kd, xs, e, k, ha, hl, _, hp⟩ := h
      exact ⟨a, kd, xs, e, k, ha, hl, paired_imp hp fun _ _ q => ih q⟩
section
variable {K : PySem.W.Frag} {ok : Addr → Prop} {Hb : Hp} {m n : Nat} {σ : L2.St} {te : TE} {ts : TA} {t : Th} {us us2 : List Th}
/-- te yields a thing, beside what stands at Hb -/
def YT (ok : Addr → Prop) (Hb : Hp) (m : Nat) (te : TE) (σ : L2.St) (t : Th) : Prop := ∀ (H : Hp) (Q : VK), Same Hb H → (∀ H' v, Same H H' → ThL ok H' m v t → Q v H') → te σ H Q
def YTs (ok : Addr → Prop) (Hb : Hp) (m n : Nat) (ts : TA) (σ : L2.St) (us : List Th) : Prop := us.length ≤ n ∧ ∀ (H : Hp) (Q : List V → Hp → Prop), Same Hb H → (∀ H' vs, Same H H' → Paired (ThL ok H' m) vs us → Q vs H') → ts σ H Q
theorem yt_c {x : V} (h : smallT x = true) : YT ok Hb m (tC x) σ (.at x) := fun H Q s q => q H x (Same.refl H) (thL_at' h)
theorem yt_var {i : Nat} {v : V} (h : σ[i]? = some (some v)) (hv : ThL ok Hb m v t) : YT ok Hb m (tVar i) σ t := fun H Q s q => ⟨v, h, q H v (Same.refl H) (hv.to (KeepT.same s))⟩
theorem yts_nil : YTs ok Hb m n tNil σ [] := ⟨Nat.zero_le _, fun H Q s q => q H [] (Same.refl H) .nil⟩
theorem yts_cons (h1 : YT ok Hb m te σ t) (h2 : YTs ok Hb m n ts σ us) : YTs ok Hb m (n + 1) (tCons te ts) σ (t :: us) :=
  ⟨Nat.succ_le_succ h2.1, fun H Q s q => h1 H _ s fun H1 v s1 hv => h2.2 H1 _ (Same.trans s s1) fun H2 vs s2 hvs => q H2 (v :: vs) (Same.trans s1 s2) (.cons (hv.to (KeepT.same s2)) hvs)⟩
theorem yt_tup (hf : ∀ x, Hb x = none → ok x) (h : YTs ok Hb m 12 ts σ us) (hk : kdT false us = true) : YT ok Hb (m + 1) (tTup ts) σ (.sq us) := fun H Q s q => h.2 H _ s fun H1 vs s1 hvs => by
  have l1 := h.1
  have l2 := paired_len hvs
  exact ⟨smallE (by omega), fun p np => q _ _ (Same.trans s1 (Same.new np)) ⟨p, false, vs, rfl, hf p (Same.free (Same.trans s s1) np), upd_same, by omega, hk, paired_imp hvs fun _ _ q => q.to (KeepT.same (Same.new np))⟩⟩
theorem yt_lst (hf : ∀ x, Hb x = none → ok x) (h : YTs ok Hb m 12 ts σ us) : YT ok Hb (m + 1) (tLst ts) σ (.sq us) := fun H Q s q => h.2 H _ s fun H1 vs s1 hvs => by
  have l1 := h.1
  have l2 := paired_len hvs
  exact ⟨smallE (by omega), fun p np => q _ _ (Same.trans s1 (Same.new np)) ⟨p, true, vs, rfl, hf p (Same.free (Same.trans s s1) np), upd_same, by omega, rfl, paired_imp hvs fun _ _ q => q.to (KeepT.same (Same.new np))⟩⟩
theorem paired_append {α β : Type} {R : α → β → Prop} : ∀ {xs xs2 : List α} {ys ys2 : List β}, Paired R xs ys → Paired R xs2 ys2 → Paired R (xs ++ xs2) (ys ++ ys2)
  | _, _, _, _, .nil, h => h
  | _, _, _, _, .cons r t, h => .cons r (paired_append t h)
end
theorem paired_mem {α β : Type} {R : α → β → Prop} {xs : List α} {ys : List β} (h : Paired R xs ys) {x : α} (hx : x ∈ xs) : ∃ y ∈ ys, R x y := by
  obtain ⟨i, hi, e⟩ := List.mem_iff_getElem.mp hx
  obtain ⟨y, hy, r⟩ := paired_get h (i := i) (x := x) (by rw [List.getElem?_eq_getElem hi, e])
  exact ⟨y, List.mem_of_getElem? hy, r⟩
section
variable {P : Program} {w : World} {K : PySem.W.Frag} {mg : Str → Option Value} {base : Heap}
theorem pick_th {a c : Addr} {H0 H : Hp} {n : Int} {vs : List V} {us : List Th} {m : Nat} {ok : Addr → Prop} {Q : VK} {E : XK} (sr : Src H a n) (hn : n < 2 ^ 40) (fr : Fr (· ≠ a) H0 H) (oka : ∀ x, ok x → x ≠ a) (ca : c ≠ a) (hc : H c = some (.lst vs)) (hv : Paired (ThL ok H m) vs us) (hl : us.length ≤ 1000) (h0 : us ≠ [])
    (q : ∀ H' v t, Fr (· ≠ a) H0 H' → Src H' a (n + 1) → ThL ok H' m v t → t ∈ us → Q v H') : spLPick [.ref a, .ref c] H Q E :=
  ⟨a, c, vs, n, rfl, sr, hn, ca, hc, (fun e => by rw [e] at hv; cases hv; exact h0 rfl), by rw [paired_len hv]; omega, fun H' x f s hx => by
    obtain ⟨t, ht, r⟩ := paired_mem hv hx
    exact q H' x t (fr.trans f) s (r.to (KeepT.fr (f.mono oka) fun _ k => k)) ht⟩
end
end Ft
set_option Elab.async false
set_option linter.all false
set_option maxRecDepth 100000
set_option maxHeartbeats 1000000
set_option pp.maxSteps 5000
set_option pp.deepTerms.threshold 10
namespace Ft
open PySem L2
theorem pg_or {X : Cx} {e : Expr} {t1 t2 : TG} (h1 : PG X e t1) (h2 : PG X e t2) : PG X e (fun v σ H Q => t1 v σ H Q ∨ t2 v σ H Q) :=
  ⟨fun pins s σ H v u Q I r hw => hw.elim (h1.run pins s σ H v u Q I r) (h2.run pins s σ H v u Q I r)⟩
def FlatD (kvs : List (Key × V)) : Prop := ∀ p ∈ kvs, valV kvs p.1 = some p.2 ∧ (flatB p.2 = true ∨ ∃ b, p.2 = .ref b)
def DkO (H : Hp) (a : Addr) (o : HO) : Prop := (∃ kvs, o = .dK kvs ∧ FlatD kvs) ∨ ∃ (z : Str) (t : Addr) (ks : List Key), o = OddE a z t ∧ H t = some (.tup (ks.map kV))
theorem DkO.same {H H' : Hp} {a : Addr} {o : HO} (h : DkO H a o) (s : Same H H') : DkO H' a o := by
  rcases h with h | ⟨z, t, ks, e, ht⟩
  · exact .inl h
  · exact .inr ⟨z, t, ks, e, s _ _ ht⟩
def PhAt (H : Hp) : Nat → V → Th → Prop
  | _, v, .at x => v = x ∧ smallT x = true
  | _, v, .dc => ∃ a o, v = .ref a ∧ H a = some o ∧ DkO H a o
  | m + 1, v, .sq ts => ∃ a kd xs, v = .ref a ∧ H a = some (mkO kd xs) ∧ ts.length ≤ 100 ∧ Paired (PhAt H m) xs ts
  | 0, _, .sq _ => False
theorem phAt_at {H : Hp} {m : Nat} {v x : V} (h : PhAt H m v (.at x)) : v = x ∧ smallT x = true := by cases m <;> exact h
theorem phAt_at' {H : Hp} {m : Nat} {x : V} (h : smallT x = true) : PhAt H m x (.at x) := by cases m <;> exact ⟨rfl, h⟩
theorem phAt_dc {H : Hp} {m : Nat} {v : V} (h : PhAt H m v .dc) : ∃ a o, v = .ref a ∧ H a = some o ∧ DkO H a o := by cases m <;> exact h
theorem phAt_dc' {H : Hp} {m : Nat} {a : Addr} {o : HO} (h : H a = some o) (k : DkO H a o) : PhAt H m (.ref a) .dc := by cases m <;> exact ⟨a, o, rfl, h, k⟩
theorem phAt_sq {H : Hp} {m : Nat} {v : V} {ts : List Th} (h : PhAt H m v (.sq ts)) : ∃ m' a kd xs, m = m' + 1 ∧ v = .ref a ∧ H a = some (mkO kd xs) ∧ ts.length ≤ 100 ∧ Paired (PhAt H m') xs ts := by
  cases m with
  | zero => exact h.elim
  | succ m =>
    obtain ⟨a, kd, xs, e, ha, hl, hp⟩ := h
    exact ⟨m, a, kd, xs, rfl, e, ha, hl, hp⟩
theorem PhAt.same {H H' : Hp} (s : Same H H') : ∀ {m : Nat} {v : V} {x : Th}, PhAt H m v x → PhAt H' m v x := by
  intro m
  induction m with
  | zero =>
    intro v x h
    cases x with
    | «at» x => exact h
    | dc =>
      obtain ⟨a, o, e, ha, k⟩ := h
      exact ⟨a, o, e, s _ _ ha, k.same s⟩
    | sq ts => exact h.elim
  | succ m ih =>
    intro v x h
    cases x with
    | «at» x => exact h
    | dc =>
      obtain ⟨a, o, e, ha, k⟩ := h
      exact ⟨a, o, e, s _ _ ha, k.same s⟩
    | sq ts =>
      obtain ⟨a, kd, xs, e, ha, hl, hp⟩ := h
      exact ⟨a, kd, xs, e, s _ _ ha, hl, paired_imp hp fun _ _ q => ih q⟩
theorem PhAt.up {H : Hp} : ∀ {m : Nat} {v : V} {x : Th}, PhAt H m v x → PhAt H (m + 1) v x := by
  intro m
  induction m with
  | zero =>
    intro v x h
    cases x with
    | «at» x => exact h
    | dc => exact h
    | sq ts => exact h.elim
  | succ m ih =>
    intro v x h
    cases x with
    | «at» x => exact h
    | dc => exact h
    | sq ts =>
      obtain ⟨a, kd, xs, e, ha, hl, hp⟩ := h
      exact ⟨a, kd, xs, e, ha, hl, paired_imp hp fun _ _ q => ih q⟩
/-- .. and what they are to isinstance -/
def tyT (kd : Bool) : Th → String
  | .at (.int _) => "int"
  | .at (.bl _) => "bool"
  | .at (.str _) => "str"
  | .at _ => "NoneType"
  | .dc => "dict"
  | .sq _ => if kd then "list" else "tuple"
def TyO (K : PySem.W.Frag) (H : Hp) (x : V) (t : Value) : Prop := TyX K H x t ∨ ∃ (a : Addr) (z : Str) (y : Addr), x = .ref a ∧ H a = some (OddE a z y) ∧ t = .type "dict"
def rIsiO2 (K : PySem.W.Frag) : List V → Hp → VK → Prop := fun xs H Q => ∃ (x c : V) (t u : Value) (b : Bool), xs = [x, c] ∧ ClsV c u ∧ TyO K H x t ∧ PySem.W.kitOne K t u = some b ∧ Q (.bl b) H
def rIsiTO (K : PySem.W.Frag) : List V → Hp → VK → Prop := fun xs H Q => ∃ (x : V) (tp : Addr) (cs : List V) (t : Value) (us : List Value) (b : Bool), xs = [x, .ref tp] ∧ H tp = some (.tup cs) ∧ Paired ClsV cs us ∧ TyO K H x t ∧ PySem.W.kitAny K t us = some b ∧ Q (.bl b) H
theorem call_isiO2 {X : Cx} : CallR X (.builtin "isinstance") (rIsiO2 X.K) := by
  intro pins s σ H xs us Q I r h
  obtain ⟨x, c, t, u, b, rfl, k, ty | ⟨a, z, y, rfl, ha, rfl⟩, e, q⟩ := h
  · exact call_isi pins s σ H _ us Q I r ⟨x, c, t, u, b, rfl, k, ty, e, q⟩
  · obtain ⟨u1, u2, rfl, r1, r2⟩ := vals2 r
    cases (show u1 = Value.ref a from r1)
    have e2 := k.eq r2
    subst e2
    obtain ⟨⟨_, o, ep, _, _, _, _, _, h1, h2, _⟩, _, _⟩ := (show ObjOk X.prog X.w H s.heap a (OddE a z y) from I.hok a _ ha)
    exact PySem.W.kia_one PySem.W.kitx_dict I.kIn ⟨o, h1, h2.1⟩ e (fun z => nomatch z) fun tk => ⟨.bl b, H, I.tok tk, rfl, q⟩
theorem call_isiTO {X : Cx} : CallR X (.builtin "isinstance") (rIsiTO X.K) := by
  intro pins s σ H xs us Q I r h
  obtain ⟨x, tp, cs, t, ws, b, rfl, hT, k, ty | ⟨a, z, y, rfl, ha, rfl⟩, e, q⟩ := h
  · exact call_isiT pins s σ H _ us Q I r ⟨x, tp, cs, t, ws, b, rfl, hT, k, ty, e, q⟩
  · obtain ⟨u1, u2, rfl, r1, r2⟩ := vals2 r
    cases (show u1 = Value.ref a from r1)
    cases (show u2 = Value.ref tp from r2)
    obtain ⟨⟨_, o, ep, _, _, _, _, _, h1, h2, _⟩, _, _⟩ := (show ObjOk X.prog X.w H s.heap a (OddE a z y) from I.hok a _ ha)
    obtain ⟨_, its, rv, ot, g1, g2, n, g3⟩ := (show ObjOk X.prog X.w H s.heap tp (.tup cs) from I.hok tp _ hT)
    have e3 := ClsV.all k rv
    subst e3
    obtain ⟨oc, od, dt, sl⟩ := ot
    simp only at g2 g3
    subst g2 g3
    exact PySem.W.kia_tup PySem.W.kitx_dict I.kIn ⟨o, h1, h2.1⟩ g1 e (fun z => nomatch z) fun tk => ⟨.bl b, H, I.tok tk, rfl, q⟩
theorem ph_ty {K : PySem.W.Frag} {H : Hp} {m : Nat} {v : V} {t : Th} (h : PhAt H m v t) : ∃ kd, TyO K H v (.type (tyT kd t)) ∧ ∀ ts, t = .sq ts → ∃ a xs, v = .ref a ∧ H a = some (mkO kd xs) := by
  cases t with
  | «at» x =>
    obtain ⟨rfl, hs⟩ := phAt_at h
    refine ⟨true, .inl (.base ?_), fun ts e => nomatch e⟩
    cases v with
    | int i => exact .int i
    | str z => exact .str z
    | bl b => exact .bl b
    | non => exact .non
    | _ => simp [smallT, isAtom] at hs
  | dc =>
    obtain ⟨a, o, rfl, ha, ⟨kvs, rfl, _⟩ | ⟨z, y, ks, rfl, _⟩⟩ := phAt_dc h
    · exact ⟨true, .inl (.base (.dK ha)), fun ts e => nomatch e⟩
    · exact ⟨true, .inr ⟨a, z, y, rfl, ha, rfl⟩, fun ts e => nomatch e⟩
  | sq ts =>
    obtain ⟨m', a, kd, xs, _, rfl, ha, _, _⟩ := phAt_sq h
    refine ⟨kd, .inl (.base ?_), fun ts e => ⟨a, xs, rfl, ha⟩⟩
    cases kd
    · exact .tup ha
    · exact .lst ha
end Ft
set_option Elab.async false
set_option linter.all false
set_option maxRecDepth 100000
set_option maxHeartbeats 1000000
set_option pp.maxSteps 5000
set_option pp.deepTerms.threshold 10
namespace Ft
open PySem L2
def stepT : Th → Option Int
  | .at (.int i) => some i
  | _ => none
def pathT : List Th → Option (List Int)
  | [] => some []
  | t :: ts => match stepT t, pathT ts with
    | some i, some p => some (i :: p)
    | _, _ => none
def placeT : Th → Option Pl
  | .sq [.at (.str z), .sq ps] => (pathT ps).map fun p => (z, p)
  | _ => none
def isStrT : Th → Bool
  | .at (.str _) => true
  | _ => false
def isNumT : Th → Bool
  | .at (.int _) => true
  | .at (.bl _) => true
  | _ => false
def isBlT : Th → Bool
  | .at (.bl _) => true
  | _ => false
theorem kit_lt {kd : Bool} {t : Th} (h : ∀ v, t = .at v → smallT v = true) : kitAnyB (tyT kd t) ["list", "tuple"] = some (isSq t) := by
  obtain ⟨e1, e2, e3, e4, e5, e6, e7⟩ : kitAnyB "int" ["list", "tuple"] = some false ∧ kitAnyB "bool" ["list", "tuple"] = some false ∧ kitAnyB "str" ["list", "tuple"] = some false ∧ kitAnyB "NoneType" ["list", "tuple"] = some false ∧ kitAnyB "dict" ["list", "tuple"] = some false ∧ kitAnyB "list" ["list", "tuple"] = some true ∧ kitAnyB "tuple" ["list", "tuple"] = some true := by decide +kernel
  cases t with
  | «at» v =>
    cases v with
    | int i => exact e1
    | bl b => exact e2
    | str z => exact e3
    | non => exact e4
    | _ => have := h _ rfl; simp [smallT, isAtom] at this
  | dc => exact e5
  | sq ts =>
    cases kd
    · exact e7
    · exact e6
theorem kit_st {kd : Bool} {t : Th} (h : ∀ v, t = .at v → smallT v = true) : kitB (tyT kd t) "str" = some (isStrT t) := by
  obtain ⟨e1, e2, e3, e4, e5, e6, e7⟩ : kitB "int" "str" = some false ∧ kitB "bool" "str" = some false ∧ kitB "str" "str" = some true ∧ kitB "NoneType" "str" = some false ∧ kitB "dict" "str" = some false ∧ kitB "list" "str" = some false ∧ kitB "tuple" "str" = some false := by decide +kernel
  cases t with
  | «at» v =>
    cases v with
    | int i => exact e1
    | bl b => exact e2
    | str z => exact e3
    | non => exact e4
    | _ => have := h _ rfl; simp [smallT, isAtom] at this
  | dc => exact e5
  | sq ts =>
    cases kd
    · exact e7
    · exact e6
theorem kit_nm {kd : Bool} {t : Th} (h : ∀ v, t = .at v → smallT v = true) : kitB (tyT kd t) "int" = some (isNumT t) := by
  obtain ⟨e1, e2, e3, e4, e5, e6, e7⟩ : kitB "int" "int" = some true ∧ kitB "bool" "int" = some true ∧ kitB "str" "int" = some false ∧ kitB "NoneType" "int" = some false ∧ kitB "dict" "int" = some false ∧ kitB "list" "int" = some false ∧ kitB "tuple" "int" = some false := by decide +kernel
  cases t with
  | «at» v =>
    cases v with
    | int i => exact e1
    | bl b => exact e2
    | str z => exact e3
    | non => exact e4
    | _ => have := h _ rfl; simp [smallT, isAtom] at this
  | dc => exact e5
  | sq ts =>
    cases kd
    · exact e7
    · exact e6
theorem kit_bl {kd : Bool} {t : Th} (h : ∀ v, t = .at v → smallT v = true) : kitB (tyT kd t) "bool" = some (isBlT t) := by
  obtain ⟨e1, e2, e3, e4, e5, e6, e7⟩ : kitB "int" "bool" = some false ∧ kitB "bool" "bool" = some true ∧ kitB "str" "bool" = some false ∧ kitB "NoneType" "bool" = some false ∧ kitB "dict" "bool" = some false ∧ kitB "list" "bool" = some false ∧ kitB "tuple" "bool" = some false := by decide +kernel
  cases t with
  | «at» v =>
    cases v with
    | int i => exact e1
    | bl b => exact e2
    | str z => exact e3
    | non => exact e4
    | _ => have := h _ rfl; simp [smallT, isAtom] at this
  | dc => exact e5
  | sq ts =>
    cases kd
    · exact e7
    · exact e6
theorem ph_small {H : Hp} {m : Nat} {v : V} {t : Th} (h : PhAt H m v t) : ∀ x, t = .at x → smallT x = true := fun x e => by
  rw [e] at h
  exact (phAt_at h).2
theorem step_num (t : Th) : (stepT t).isSome = (isNumT t && !isBlT t) := by
  cases t with
  | «at» v => cases v <;> rfl
  | dc => rfl
  | sq ts => rfl
theorem path_some : ∀ ts : List Th, (pathT ts).isSome = ts.all fun t => (stepT t).isSome
  | [] => rfl
  | t :: ts => by
    rw [List.all_cons, ← path_some ts, pathT]
    cases stepT t <;> cases pathT ts <;> rfl
theorem path_vals {H : Hp} {m : Nat} {ys : List V} {ps : List Th} (h : Paired (PhAt H m) ys ps) : ∀ {path : List Int}, pathT ps = some path → ys = path.map V.int := by
  induction h with
  | nil => intro path e; cases e; rfl
  | @cons y t ys ts r _ ih =>
    intro path e
    rw [pathT] at e
    cases t with
    | «at» v =>
      cases v with
      | int i =>
        cases hp : pathT ts with
        | none => rw [hp] at e; cases e
        | some p =>
          rw [hp] at e
          cases e
          rw [ih hp, (phAt_at r).1]
          rfl
      | _ => cases e
    | _ => cases e
section
variable {P : PySem.Program} {w : World} {K : PySem.W.Frag} {mg : Str → Option Value} {base : Heap}
def spPlaceOfT : Sp := fun vs H Q _ => ∃ (v : V) (t : Th) (m : Nat), vs = [v] ∧ PhAt H m v t ∧ ∀ H' u, Same H H' → (u = .non ∧ placeT t = none ∨ ∃ t' p, u = .ref t' ∧ placeT t = some p ∧ PlAt H' t' p) → Q u H'
theorem ok_PlaceOfT {f : Addr} {fd : FuncData} {k : Nat} (F : Fun K "place_of" "place_of" sPlaceOf f fd) (B : Bl mg) : FnOk P w K mg base CX0 (k + 1) f fd ["thing"] spPlaceOfT := by
  refine F.ok scPlaceOf (fun vs H Q E h => ?_) (fun cdv A outer s H vs Q E hr h => ?_)
  · obtain ⟨v, t, m, rfl, _⟩ := h
    rfl
  obtain ⟨v, t, m, rfl, h, q⟩ := h
  refine ⟨_, (pss_cons (ps_if (PW.pt (pw_or (pt_not (pt_val (pe_callB call_isiTO (by rfl) B.isinstance (by decide +kernel) (pa_cons (pv 0) (pa_cons (pe_tup (pa_cons (pe_bltn (v := .ty "list") (by rfl) B.list (by decide +kernel) rfl) (pa_cons (pe_bltn (v := .ty "tuple") (by rfl) B.tuple (by decide +kernel) rfl) pa_nil))) pa_nil))))) (pw_or1 (pt_cmpR op_ne (pe_callB call_len_seq (by rfl) B.len (by decide +kernel) (pa_cons (pv 0) pa_nil)) pe_int (nomark _))))) (pss_one (ps_ret pe_non)) pss_nil)
      (pss_cons (ps_asg (pv 0) (pg_or (pg_tup (by rfl) (pgs_cons (pg_name (i := 1) scPlaceOf.nd rfl (by first | exact Or.inl rfl | exact Or.inr rfl)) (pgs_cons (pg_name (i := 2) scPlaceOf.nd rfl (by first | exact Or.inl rfl | exact Or.inr rfl)) pgs_nil))) (pg_lst (by rfl) (pgs_cons (pg_name (i := 1) scPlaceOf.nd rfl (by first | exact Or.inl rfl | exact Or.inr rfl)) (pgs_cons (pg_name (i := 2) scPlaceOf.nd rfl (by first | exact Or.inl rfl | exact Or.inr rfl)) pgs_nil)))))
      (pss_cons (ps_if (PW.pt (pw_or (pt_not (pt_val (pe_callB call_isiO2 (by rfl) B.isinstance (by decide +kernel) (pa_cons (pv 1) (pa_cons (pe_bltn (v := .ty "str") (by rfl) B.str (by decide +kernel) rfl) pa_nil))))) (pw_or1 (pt_not (pt_val (pe_callB call_isiTO (by rfl) B.isinstance (by decide +kernel) (pa_cons (pv 2) (pa_cons (pe_tup (pa_cons (pe_bltn (v := .ty "list") (by rfl) B.list (by decide +kernel) rfl) (pa_cons (pe_bltn (v := .ty "tuple") (by rfl) B.tuple (by decide +kernel) rfl) pa_nil))) pa_nil)))))))) (pss_one (ps_ret pe_non)) pss_nil)
      (pss_cons (ps_if (pt_not (pt_val (pe_callB (cr_all rfl) (by rfl) B.all (by decide +kernel) (pa_cons (pe_lc (own := [("step", 3)]) (g := (gName 3)) (tt := tYes) (by rfl) scPlaceOf.nd (pi_seq (pv 2)) (blkOk_by (own := [("step", 3)]) (N := ["thing", "module", "path", "step"]) (sc := defScope sPlaceOf) (by decide +kernel)) (fun _ _ _ _ _ => (pg_name (i := 3) scPlaceOf.nd rfl (by first | exact Or.inl rfl | exact Or.inr rfl))) (fun _ _ _ _ _ => pts_nil) (fun _ _ _ _ _ => (pe_and (pe_callB (callK (K := K) rIsiO2 call_isiO2 rfl) (by rfl) B.isinstance (by decide +kernel) (pa_cons (pv 3) (pa_cons (pe_bltn (v := .ty "int") (by rfl) B.int (by decide +kernel) rfl) pa_nil))) (pe_one (pe_not (pe_callB (callK (K := K) rIsiO2 call_isiO2 rfl) (by rfl) B.isinstance (by decide +kernel) (pa_cons (pv 3) (pa_cons (pe_bltn (v := .ty "bool") (by rfl) B.bool (by decide +kernel) rfl) pa_nil)))))))) pa_nil)))) (pss_one (ps_ret pe_non)) pss_nil)
      (pss_one (ps_ret (pe_tup (pa_cons (pv 1) (pa_cons (pe_callTy call_tuple_of (by rfl) B.tuple (by decide +kernel) (pa_cons (pv 2) pa_nil)) pa_nil))))))))), ?_⟩
  obtain ⟨kd, ty, hsq⟩ := ph_ty (K := K) h
  refine ⟨_, rfl, (by show 2 ≤ sizeLine; decide), fun t0 nt0 => ?_⟩
  have s0 : Same H (upd H t0 (.tup [.ty "list", .ty "tuple"])) := Same.new nt0
  have hT : (upd H t0 (.tup [.ty "list", .ty "tuple"])) t0 = some (.tup [.ty "list", .ty "tuple"]) := upd_same
  generalize upd H t0 _ = H0 at *
  replace h := h.same s0
  obtain ⟨kd, ty, hsq⟩ := ph_ty (K := K) h
  refine ⟨_, t0, _, _, _, _, rfl, hT, clsV_all ["list", "tuple"], ty, kitAny_of (kit_lt (ph_small h)), isSq t, rfl, ?_⟩
  by_cases hs : isSq t = true
  · rw [hs]
    refine iteF ?_
    obtain ⟨ts, rfl⟩ : ∃ ts, t = .sq ts := by
      cases t with
      | sq ts => exact ⟨ts, rfl⟩
      | _ => cases hs
    clear ty hsq
    obtain ⟨m', a, kd, xs, rfl, rfl, ha, hl, hp⟩ := phAt_sq h
    have lx := paired_len hp
    refine ⟨_, rfl, a, _, rfl, sqa_of (sq_of ha), rfl, _, rfl, ?_⟩
    by_cases l2 : xs.length = 2
    · rw [l2]
      refine iteF ?_
      obtain ⟨v1, v2, rfl⟩ : ∃ v1 v2, xs = [v1, v2] := by
        match xs, l2 with
        | [v1, v2], _ => exact ⟨v1, v2, rfl⟩
      obtain ⟨t1, t2, rfl⟩ : ∃ t1 t2, ts = [t1, t2] := by
        match ts, lx with
        | [t1, t2], _ => exact ⟨t1, t2, rfl⟩
      obtain ⟨h1, h2⟩ : PhAt H0 m' v1 t1 ∧ PhAt H0 m' v2 t2 := by
        cases hp with
        | cons a b =>
          cases b with
          | cons b c => exact ⟨a, b⟩
      have unp : ∀ {tt : TGs} {σ : L2.St} {Q : L2.St → Hp → Prop}, tt [v1, v2] σ H0 Q → (gTup K 2 tt (.ref a) σ H0 Q ∨ gLst K 2 tt (.ref a) σ H0 Q) := fun {tt σ Q} h => by
        cases kd
        · exact .inl ⟨a, _, rfl, SqT.of ha, rfl, h⟩
        · exact .inr ⟨a, _, rfl, SqL.of ha, rfl, h⟩
      refine ⟨_, rfl, unp ?_⟩
      refine ⟨_, _, rfl, _, _, rfl, rfl, ?_⟩
      obtain ⟨kd1, ty1, _⟩ := ph_ty (K := K) h1
      refine ⟨_, rfl, _, _, _, _, _, rfl, .ty _, ty1, kit_ty (kit_st (ph_small h1)), isStrT t1, rfl, ?_⟩
      by_cases s1 : isStrT t1 = true
      · rw [s1]
        refine iteF ?_
        obtain ⟨z, rfl⟩ : ∃ z, t1 = .at (.str z) := by
          cases t1 with
          | «at» v => cases v <;> first | exact ⟨_, rfl⟩ | cases s1
          | _ => cases s1
        obtain ⟨rfl, _⟩ := phAt_at h1
        refine ⟨_, rfl, (by show 2 ≤ sizeLine; decide), fun tb ntb => ?_⟩
        have sb : Same H0 (upd H0 tb (.tup [.ty "list", .ty "tuple"])) := Same.new ntb
        have hTb : (upd H0 tb (.tup [.ty "list", .ty "tuple"])) tb = some (.tup [.ty "list", .ty "tuple"]) := upd_same
        generalize upd H0 tb _ = H1 at *
        have s01 := Same.trans s0 sb
        replace h2 := h2.same sb
        obtain ⟨kd2, ty2, hsq2⟩ := ph_ty (K := K) h2
        refine ⟨_, tb, _, _, _, _, rfl, hTb, clsV_all ["list", "tuple"], ty2, kitAny_of (kit_lt (ph_small h2)), isSq t2, rfl, ?_⟩
        by_cases sq2 : isSq t2 = true
        · rw [sq2]
          refine iteF ?_
          obtain ⟨ps, rfl⟩ : ∃ ts, t2 = .sq ts := by
            cases t2 with
            | sq ts => exact ⟨ts, rfl⟩
            | _ => cases sq2
          clear ty2 hsq2
          obtain ⟨m2, b, k2, ys, rfl, rfl, hb, hlb, hpb⟩ := phAt_sq h2
          have ly := paired_len hpb
          refine ⟨_, rfl, b, k2, _, rfl, sq_of hb, fun L nL => ?_⟩
          refine lc_it walk_seq (fun j H' => Same H1 H' ∧ H' L = some (.lst (((ps.take j).map fun t => (stepT t).isSome).map V.bl)))
            ⟨Same.new nL, upd_same⟩ (fun j H' _ ⟨sm, _⟩ => sq_of (sm _ _ hb)) ?_ ?_
          · rintro j y H2 H3 hj ⟨s2, hL⟩ ⟨rfl, hy⟩
            have hy : ys[j]? = some y := hy
            obtain ⟨st, hst, hys⟩ := paired_get hpb hy
            have hys := hys.same s2
            obtain ⟨kd3, ty3, _⟩ := ph_ty (K := K) hys
            have nx : ps.take (j + 1) = ps.take j ++ [st] := by rw [List.take_add_one, hst]; rfl
            have app : ∀ b, b = (stepT st).isSome → (upd H3 L (.lst (((ps.take j).map fun t => (stepT t).isSome).map V.bl ++ [.bl b]))) L = some (.lst (((ps.take (j + 1)).map fun t => (stepT t).isSome).map V.bl)) := fun b e => by
              rw [upd_same, nx, e, List.map_append, List.map_append]; rfl
            have lt : ((((ps.take j).map fun t => (stepT t).isSome).map V.bl)).length + 1 ≤ sizeLine := small (by rw [List.length_map, List.length_map, List.length_take]; omega)
            have es := step_num st
            refine ⟨rfl, _, rfl, _, _, _, _, _, rfl, .ty _, ty3, kit_ty (kit_nm (ph_small hys)), isNumT st, rfl, ?_⟩
            by_cases n3 : isNumT st = true
            · rw [n3] at es ⊢
              refine iteT ⟨_, rfl, _, _, _, _, _, rfl, .ty _, ty3, kit_ty (kit_bl (ph_small hys)), isBlT st, rfl, ?_⟩
              exact ⟨_, hL, lt, Same.upN s2 nL, app _ (by rw [es]; rfl)⟩
            · rw [Bool.not_eq_true] at n3
              rw [n3] at es ⊢
              exact iteF ⟨_, hL, lt, Same.upN s2 nL, app _ (by rw [es]; rfl)⟩
          · rintro H2 ⟨s2, hL⟩
            rw [ly, List.take_length] at hL
            have s02 := Same.trans s01 s2
            refine ⟨L, _, rfl, SqL.of hL, (ps.map fun t => (stepT t).isSome).all id, ?_⟩
            have ea : (ps.map fun t => (stepT t).isSome).all id = (pathT ps).isSome := by rw [path_some, List.all_map]; rfl
            rw [ea]
            refine ⟨rfl, ?_⟩
            cases hpt : pathT ps with
            | none =>
              refine iteT (q H2 _ s02 (.inl ⟨rfl, ?_⟩))
              show (pathT ps).map _ = none
              rw [hpt]; rfl
            | some path =>
              have e : placeT (.sq [.at (.str z), .sq ps]) = some (z, path) := by
                show (pathT ps).map _ = _
                rw [hpt]; rfl
              have ey : ys = path.map V.int := path_vals hpb hpt
              have hb2 := s2 _ _ hb
              rw [ey] at hb2
              have fin : ∀ (b2 : Addr) (H3 : Hp), Same H2 H3 → H3 b2 = some (.tup (path.map V.int)) → (tTup (tCons (tC (.str z)) (tCons (tC (.ref b2)) tNil)) [] H3 Q) := fun b2 H3 s3 h3 => ⟨(by show 2 ≤ sizeLine; decide), fun t2 nt2 => q _ _ (Same.trans s02 (Same.trans s3 (Same.new nt2))) (.inr ⟨t2, _, rfl, e, b2, upd_same, Same.new nt2 _ _ h3⟩)⟩
              refine iteF ⟨_, rfl, _, rfl, b, path.map V.int, rfl, ?_⟩
              cases k2
              · exact .inr ⟨SqT.of hb2, fin b H2 (Same.refl _) hb2⟩
              · exact .inl ⟨SqL.of hb2, fun t3 nt3 => fin t3 _ (Same.new nt3) upd_same⟩
        · rw [Bool.not_eq_true] at sq2
          rw [sq2]
          refine iteT (q H1 _ s01 (.inl ⟨rfl, ?_⟩))
          cases t2 with
          | sq ts => cases sq2
          | _ => rfl
      · rw [Bool.not_eq_true] at s1
        rw [s1]
        refine iteT (q H0 _ s0 (.inl ⟨rfl, ?_⟩))
        cases t1 with
        | «at» v => cases v <;> first | rfl | cases s1
        | _ => rfl
    · have : decide (V.int ((xs.length : Nat) : Int) = V.int 2) = false := decide_eq_false fun e => l2 (by injection e with e; omega)
      rw [this]
      refine iteT (q H0 _ s0 (.inl ⟨rfl, ?_⟩))
      match ts, lx with
      | [], _ => rfl
      | [t1], _ => cases t1 with
        | «at» v => cases v <;> rfl
        | _ => rfl
      | [t1, t2], e => exact (l2 e).elim
      | t1 :: t2 :: t3 :: ts, _ => cases t1 with
        | «at» v => cases v <;> first | rfl | (cases t2 <;> rfl)
        | _ => rfl
  · rw [Bool.not_eq_true] at hs
    rw [hs]
    refine iteT (q H0 _ s0 (.inl ⟨rfl, ?_⟩))
    cases t with
    | sq ts => cases hs
    | _ => rfl
end
end Ft
set_option Elab.async false
set_option linter.all false
set_option maxRecDepth 100000
set_option maxHeartbeats 4000000
namespace Ft
open PySem PySem.Spec PyProof.Rows L2
def zipK (zs : List Str) (ys : List V) : List (Key × V) := (zs.zip ys).map fun q => (.inr q.1, q.2)
theorem zip_kv : ∀ {zs : List Str} {ys : List V} {its its2 : List Value}, Vals (zs.map V.str) its → Vals ys its2 → ∃ prs : List (Key × Value), KV (zipK zs ys) prs ∧ prs.length = (zs.zip ys).length ∧ ∀ (i : Nat) k v, its[i]? = some k → its2[i]? = some v → ∃ q, prs[i]? = some (.inr q, v) ∧ RelV (.str q) k
  | [], ys, its, its2, h1, h2 => ⟨[], .nil, rfl, fun i k v e => by cases h1; simp at e⟩
  | z :: zs, [], its, its2, h1, h2 => ⟨[], .nil, rfl, fun i k v e e2 => by cases h2; simp at e2⟩
  | z :: zs, y :: ys, its, its2, h1, h2 => by
    cases h1 with
    | cons r1 t1 =>
      cases h2 with
      | cons r2 t2 =>
        rename_i u us u2 us2
        obtain ⟨prs, a, b, c⟩ := zip_kv t1 t2
        refine ⟨(.inr z, u2) :: prs, .cons ⟨rfl, r2⟩ a, by rw [List.length_cons, b]; rfl, fun i k v e e2 => ?_⟩
        cases i with
        | zero =>
          rw [List.getElem?_cons_zero] at e e2
          cases e; cases e2
          exact ⟨z, rfl, r1⟩
        | succ i =>
          rw [List.getElem?_cons_succ] at e e2
          exact c i k v e e2
end Ft
set_option Elab.async false
set_option linter.all false
set_option maxRecDepth 100000
set_option maxHeartbeats 4000000
namespace Ft
open PySem PySem.Spec PyProof.Rows L2
theorem SIter.extBut {kd : Bool} {h h' : Heap} {a b l : Addr} {i : Nat} (x : SIter kd h a l i) (hs : Heap.ExtBut b h h') (hab : a ≠ b) : SIter kd h' a l i := by
  cases kd with
  | true => exact Heap.IsListIter.extBut x hs hab
  | false => exact Heap.IsTupleIter.extBut x hs hab
theorem SAt.extBut {kd : Bool} {h h' : Heap} {a b : Addr} {its : Array Value} (x : SAt kd h a its) (hs : Heap.ExtBut b h h') (hab : a ≠ b) : SAt kd h' a its := by
  cases kd with
  | true => exact Heap.IsList.extBut x hs hab
  | false => exact Heap.IsTuple.extBut x hs hab
theorem SAt.at {kd : Bool} {h h' : Heap} {a : Addr} {its : Array Value} (x : SAt kd h a its) (k : ∀ o, h.get? a = some o → h'.get? a = some o) : SAt kd h' a its := by
  cases kd with
  | true => exact Heap.IsList.at x k
  | false => exact Heap.IsTuple.at x k
theorem SAt.obj {kd : Bool} {h : Heap} {a : Addr} {its : Array Value} (x : SAt kd h a its) : ∃ o, h.get? a = some o := by
  cases kd with
  | true => obtain ⟨o, ho, _⟩ := x; exact ⟨o, ho⟩
  | false => obtain ⟨o, ho, _⟩ := x; exact ⟨o, ho⟩
section
variable {prog : Program} {w : World} {A : Around} {E : Value → Shared → Prop} {s : Shared}
theorem nextQ_item {kd : Bool} {it l : Addr} {i : Nat} {items : Array Value} {x : Value} {Q : Value → Shared → Prop} (hit : SIter kd s.heap it l i) (hl : SAt kd s.heap l items) (hx : items[i]? = some x) (hQ : ∀ h', SIter kd h' it l (i + 1) → Heap.SameBut it s.heap h' → Q x { s with heap := h' }) :
    wpAny (model prog w) A (Builtin.SmallTypes.nextOf (.ref it)) Q E s := by
  cases kd with
  | true => exact wpAny_nextOf_list_item hit hl hx hQ
  | false => exact RZ.nextOf_tuple_item hit hl hx hQ
theorem nextQ_end {kd : Bool} {it l : Addr} {i : Nat} {items : Array Value} {Q : Value → Shared → Prop} (hh : A.handled = none) (hit : SIter kd s.heap it l i) (hl : SAt kd s.heap l items) (hx : items[i]? = none) (hE : ∀ h' e, Heap.ExtBut it s.heap h' → (∃ o, h'.get? e = some o ∧ o.cls = .type "StopIteration") → E (.ref e) { s with heap := h' }) :
    wpAny (model prog w) A (Builtin.SmallTypes.nextOf (.ref it)) Q E s := by
  cases kd with
  | true => exact wpAny_nextOf_list_end hh hit hl hx hE
  | false => exact RZ.nextOf_tuple_end hh hit hl hx hE
variable {z TI TO T i1 i2 l1 l2 : Addr} {f ka kb : Bool} {oT : Obj} {k1 k2 : Nat} {xs ys : Array Value} {x y : Value}
theorem heldQ_item {Q : Option Value → Shared → Prop} (D : ZipApart z TI TO i1 i2 l1 l2) (hz : IsZipHeld s.heap z TI TO T f) (hT : s.heap.get? T = some oT) (hTI : IsPair s.heap TI (.ref i1) (.ref i2))
    (h1 : SIter ka s.heap i1 l1 k1) (h2 : SIter kb s.heap i2 l2 k2) (hl1 : SAt ka s.heap l1 xs) (hl2 : SAt kb s.heap l2 ys) (hx : xs[k1]? = some x) (hy : ys[k2]? = some y)
    (hQ : ∀ h', IsZipHeld h' z TI TO T true → SIter ka h' i1 l1 (k1 + 1) → SIter kb h' i2 l2 (k2 + 1) → IsPair h' s.heap.objs.size x y → (∀ c o, c ≠ z → c ≠ i1 → c ≠ i2 → s.heap.get? c = some o → h'.get? c = some o) → Q (some (.ref s.heap.objs.size)) { s with heap := h' }) :
    wpAny (model prog w) A (pyNext (.ref z)) Q E s := by
  have hTy : s.TypeIs (.ref z) "zip" := ⟨_, hz, rfl⟩
  unfold pyNext
  refine wpAny_bind (wpAny_attempt (wpAny_callSpecial?_slot (name := Str.ofString "__next__") hTy F.slot_zip_next (wpAny_call_entry F.slot_zip_next hTy F.entry_zip_next ?_ (F.args_zip_next_1 _))))
  show wpAny _ _ (field (.ref z) 2 >>= _) _ _ _
  refine wpAny_bind (wpAny_field hz rfl (x := .bool false) rfl ?_)
  show wpAny _ _ (field (.ref z) 3 >>= _) _ _ _
  refine wpAny_bind (wpAny_field hz rfl (x := .ref TI) rfl (wpAny_bind (wpAny_seqItems hTI rfl ?_)))
  show wpAny _ _ (Builtin.SmallTypes.ownedTupleIsFree (.ref z) >>= _) _ _ _
  refine wpAny_bind (wpAny_tupleHeld_zip hz hT fun g1 z1 b1 => ?_)
  simp only [Bool.false_eq_true, if_false]
  refine wpAny_bind ?_
  rw [← Array.forIn_toList]
  simp only [List.forIn_cons, List.forIn_nil]
  refine wpAny_bind (wpAny_bind (wpAny_holding ?_))
  show wpAny _ _ (Builtin.SmallTypes.nextOf (.ref i1) >>= _) _ _ _
  refine wpAny_bind (nextQ_item (s := { s with heap := g1 }) (h1.extBut b1.extBut D.i1z) (hl1.extBut b1.extBut D.l1z) hx fun g2 n1 b2 => wpAny_pure (wpAny_pure (wpAny_bind (wpAny_bind (wpAny_holding ?_)))))
  show wpAny _ _ (Builtin.SmallTypes.nextOf (.ref i2) >>= _) _ _ _
  refine wpAny_bind (nextQ_item (s := { s with heap := g2 }) ((h2.extBut b1.extBut D.i2z).extBut b2.extBut D.i12.symm) ((hl2.extBut b1.extBut D.l2z).extBut b2.extBut D.l2i1) hy fun g3 n2 b3 => wpAny_pure (wpAny_pure (wpAny_pure ?_)))
  show wpAny _ _ (newTuple [x, y] >>= _) _ _ _
  refine wpAny_bind (wpAny_newTuple (wpAny_pure ⟨_, rfl, wpAny_pure ?_⟩))
  have hsz : g3.objs.size = s.heap.objs.size := by rw [b3.1, b2.1, b1.1]
  have z3 : IsZipHeld g3 z TI TO T true := b3.extBut _ _ D.i2z.symm (b2.extBut _ _ D.i1z.symm z1)
  have hp : IsPair (g3.push { cls := .type "tuple", data := .seq #[x, y] }) g3.objs.size x y := Heap.get?_push_size _ rfl
  have m1 : SIter ka g3 i1 l1 (k1 + 1) := n1.extBut b3.extBut D.i12
  show Q (some (.ref g3.objs.size)) _
  rw [hsz] at hp ⊢
  exact hQ _ (Heap.get?_push_of_some _ z3) (m1.at fun o e => Heap.get?_push_of_some _ e) (n2.at fun o e => Heap.get?_push_of_some _ e) hp fun c o c1 c2 c3 e => Heap.get?_push_of_some _ (b3.extBut _ _ c3 (b2.extBut _ _ c2 (b1.extBut _ _ c1 e)))
theorem heldQ_end {Q : Option Value → Shared → Prop} (hh : A.handled = none) (D : ZipApart z TI TO i1 i2 l1 l2) (hz : IsZipHeld s.heap z TI TO T f) (hT : s.heap.get? T = some oT) (hTI : IsPair s.heap TI (.ref i1) (.ref i2))
    (h1 : SIter ka s.heap i1 l1 k1) (h2 : SIter kb s.heap i2 l2 k2) (hl1 : SAt ka s.heap l1 xs) (hl2 : SAt kb s.heap l2 ys) (hend : xs[k1]? = none ∨ ys[k2]? = none)
    (hQ : ∀ h', (∀ c o, c ≠ z → c ≠ i1 → c ≠ i2 → s.heap.get? c = some o → h'.get? c = some o) → Q none { s with heap := h' }) : wpAny (model prog w) A (pyNext (.ref z)) Q E s := by
  have hTy : s.TypeIs (.ref z) "zip" := ⟨_, hz, rfl⟩
  unfold pyNext
  refine wpAny_bind (wpAny_attempt (wpAny_callSpecial?_slot (name := Str.ofString "__next__") hTy F.slot_zip_next (wpAny_call_entry F.slot_zip_next hTy F.entry_zip_next ?_ (F.args_zip_next_1 _))))
  show wpAny _ _ (field (.ref z) 2 >>= _) _ _ _
  refine wpAny_bind (wpAny_field hz rfl (x := .bool false) rfl ?_)
  show wpAny _ _ (field (.ref z) 3 >>= _) _ _ _
  refine wpAny_bind (wpAny_field hz rfl (x := .ref TI) rfl (wpAny_bind (wpAny_seqItems hTI rfl ?_)))
  show wpAny _ _ (Builtin.SmallTypes.ownedTupleIsFree (.ref z) >>= _) _ _ _
  refine wpAny_bind (wpAny_tupleHeld_zip hz hT fun g1 z1 b1 => ?_)
  simp only [Bool.false_eq_true, if_false]
  refine wpAny_bind ?_
  rw [← Array.forIn_toList]
  simp only [List.forIn_cons, List.forIn_nil]
  have fin : ∀ (g : Heap) (e : Addr), (∀ c o, c ≠ z → c ≠ i1 → c ≠ i2 → s.heap.get? c = some o → g.get? c = some o) → (∃ o, g.get? e = some o ∧ o.cls = .type "StopIteration") → wpAny (model prog w) A (isInstance (.ref e) (.type "StopIteration") >>= fun b => if b = true then pure none else throw (.ref e)) Q E { s with heap := g } := fun g e hk ⟨o, ho, hc⟩ =>
    wpAny_bind (wpAny_isInstance (T := "StopIteration") (b := true) ⟨o, ho, hc⟩ isSubtype_stop (wpAny_pure (hQ g hk)))
  refine wpAny_bind (wpAny_bind (wpAny_holding ?_))
  show wpAny _ _ (Builtin.SmallTypes.nextOf (.ref i1) >>= _) _ _ _
  cases hx : xs[k1]? with
  | none =>
    refine wpAny_bind (nextQ_end (s := { s with heap := g1 }) hh (h1.extBut b1.extBut D.i1z) (hl1.extBut b1.extBut D.l1z) hx fun g2 e b2 he => ?_)
    exact fin g2 e (fun c o c1 c2 _ q => b2 _ _ c2 (b1.extBut _ _ c1 q)) he
  | some x =>
    have hy : ys[k2]? = none := by
      rcases hend with h | h
      · rw [hx] at h; cases h
      · exact h
    refine wpAny_bind (nextQ_item (s := { s with heap := g1 }) (h1.extBut b1.extBut D.i1z) (hl1.extBut b1.extBut D.l1z) hx fun g2 n1 b2 => wpAny_pure (wpAny_pure (wpAny_bind (wpAny_bind (wpAny_holding ?_)))))
    show wpAny _ _ (Builtin.SmallTypes.nextOf (.ref i2) >>= _) _ _ _
    refine wpAny_bind (nextQ_end (s := { s with heap := g2 }) hh ((h2.extBut b1.extBut D.i2z).extBut b2.extBut D.i12.symm) ((hl2.extBut b1.extBut D.l2z).extBut b2.extBut D.l2i1) hy fun g3 e b3 he => ?_)
    exact fin g3 e (fun c o c1 c2 c3 q => b3 _ _ c3 (b2.extBut _ _ c2 (b1.extBut _ _ c1 q))) he
end
section
variable {prog : Program} {w : World}
theorem apart_sep {z TI TO i1 i2 l1 l2 : Addr} (D : ZipApart z TI TO i1 i2 l1 l2) : ZipSep2 z TI TO i1 i2 [i1, l1] [i2, l2] where
  TIz := D.TIz
  TOz := D.TOz
  TITO := D.TITO
  TIi1 := D.TIi1
  mem1 := by simp
  zf1 := by simp only [List.mem_cons, List.not_mem_nil, or_false, not_or]; exact ⟨D.i1z.symm, D.l1z.symm⟩
  Tf1 := by simp only [List.mem_cons, List.not_mem_nil, or_false, not_or]; exact ⟨D.TOi1, D.l1TO.symm⟩
  TIi2 := D.TIi2
  mem2 := by simp
  zf2 := by simp only [List.mem_cons, List.not_mem_nil, or_false, not_or]; exact ⟨D.i2z.symm, D.l2z.symm⟩
  Tf2 := by simp only [List.mem_cons, List.not_mem_nil, or_false, not_or]; exact ⟨D.TOi2, D.l2TO.symm⟩
  sep1_2 := by simp only [List.mem_cons, List.not_mem_nil, or_false, not_or]; exact ⟨D.i12, D.l2i1.symm⟩
  sep2_1 := by simp only [List.mem_cons, List.not_mem_nil, or_false, not_or]; exact ⟨D.i12.symm, D.l1i2.symm⟩
theorem zipArgQ (ka kb : Bool) (z TI TO i1 i2 l1 l2 : Addr) (D : ZipApart z TI TO i1 i2 l1 l2) (xs ys : Array Value) :
    PairArg prog w "zip" z [z, TI, TO, i1, i2, l1, l2] [z, TO, i1, i2] (min xs.size ys.size) (fun i k v => xs[i]? = some k ∧ ys[i]? = some v)
      (fun h => IsZip h z TI TO .none ∧ IsPair h TI (.ref i1) (.ref i2) ∧ (∃ a b, IsPair h TO a b) ∧ SIter ka h i1 l1 0 ∧ SIter kb h i2 l2 0 ∧ SAt ka h l1 xs ∧ SAt kb h l2 ys) where
  type := fun s ok => ⟨_, ok.1, rfl⟩
  notDict := by decide
  keep := fun h h' ok k => by
    obtain ⟨e1, e2, ⟨a, b, e3⟩, e4, e5, e6, e7⟩ := ok
    exact ⟨k _ _ e1, k _ _ e2, ⟨a, b, k _ _ e3⟩, e4.at fun o e => k _ o e, e5.at fun o e => k _ o e, e6.at fun o e => k _ o e, e7.at fun o e => k _ o e⟩
  there := fun h ok b hb => by
    obtain ⟨e1, e2, ⟨a, c, e3⟩, e4, e5, e6, e7⟩ := ok
    simp only [List.mem_cons, List.not_mem_nil, or_false] at hb
    rcases hb with q | q | q | q | q | q | q <;> subst q
    · exact ⟨_, e1⟩
    · exact ⟨_, e2⟩
    · exact ⟨_, e3⟩
    · obtain ⟨o, e, _⟩ := e4.obj; exact ⟨o, e⟩
    · obtain ⟨o, e, _⟩ := e5.obj; exact ⟨o, e⟩
    · exact e6.obj
    · exact e7.obj
  sub := fun b hb => by
    simp only [List.mem_cons, List.not_mem_nil, or_false] at hb ⊢
    rcases hb with q | q | q | q <;> simp [q]
  noKeys := fun A s Q E hA ok h => getAttrOr_miss_zip ok.1 rfl rfl rfl zip_no_keys (by decide +kernel) hA h
  iter := fun A s d Q E hA ok hd hdf h => by
    obtain ⟨e1, e2, ⟨a, b, e3⟩, e4, e5, e6, e7⟩ := ok
    simp only [List.mem_cons, List.not_mem_nil, or_false, not_or] at hdf
    obtain ⟨dz, dTI, dTO, di1, di2, dl1, dl2⟩ := hdf
    have n1 : l1 ≠ i1 := D.l1i1
    have n2 : l2 ≠ i2 := D.l2i2
    refine wpAny_pyIter_zip e1 (h z [z, TO, i1, i2] (fun i h => (IsPair h TI (.ref i1) (.ref i2) ∧ SIter ka h i1 l1 i ∧ SIter kb h i2 l2 i ∧ SAt ka h l1 xs ∧ SAt kb h l2 ys) ∧ ((IsZip h z TI TO .none ∧ ∃ a b, IsPair h TO a b) ∨ ∃ T f oT, IsZipHeld h z TI TO T f ∧ h.get? T = some oT ∧ T ≠ z ∧ T ≠ i1 ∧ T ≠ i2 ∧ T ≠ d)) s.heap s.toks ?_ ⟨⟨e2, e4, e5, e6, e7⟩, .inl ⟨e1, a, b, e3⟩⟩ (fun _ _ e => e) fun b hb => .inl hb)
    exact {
      off := fun m => by
        simp only [List.mem_cons, List.not_mem_nil, or_false] at m
        rcases m with q | q | q | q
        · exact dz q
        · exact dTO q
        · exact di1 q
        · exact di2 q
      frame := fun i g g' ⟨⟨e2, e4, e5, e6, e7⟩, hz⟩ k => by
        refine ⟨⟨k _ _ (Ne.symm dTI) e2, e4.at fun o e => k _ o (Ne.symm di1) e, e5.at fun o e => k _ o (Ne.symm di2) e, e6.at fun o e => k _ o (Ne.symm dl1) e, e7.at fun o e => k _ o (Ne.symm dl2) e⟩, ?_⟩
        rcases hz with ⟨hz, a, b, hTO⟩ | ⟨T, f, oT, hz, hT, r1, r2, r3, r4⟩
        · exact .inl ⟨k _ _ (Ne.symm dz) hz, a, b, k _ _ (Ne.symm dTO) hTO⟩
        · exact .inr ⟨T, f, oT, k _ _ (Ne.symm dz) hz, k _ _ r4 hT, r1, r2, r3, r4⟩
      item := fun i s1 Q1 E1 hi ⟨⟨e2, e4, e5, e6, e7⟩, hz⟩ hds hQ => by
        have hx : i < xs.size := Nat.lt_of_lt_of_le hi (Nat.min_le_left ..)
        have hy : i < ys.size := Nat.lt_of_lt_of_le hi (Nat.min_le_right ..)
        have lt : ∀ {c o}, s1.heap.get? c = some o → s1.heap.objs.size ≠ c := fun e => Nat.ne_of_gt (Heap.lt_size e)
        have m1 : s1.heap.objs.size ≠ i1 := let ⟨_, e, _⟩ := e4.obj; lt e
        have m2 : s1.heap.objs.size ≠ i2 := let ⟨_, e, _⟩ := e5.obj; lt e
        rcases hz with ⟨hz, a, b, hTO⟩ | ⟨T, f, oT, hz, hT, r1, r2, r3, r4⟩
        · have hh : A.in1.handled = none := hA
          refine wpAny_pyNext_zipD2_item (apart_sep D) (sdraws ka hh i1 l1 n1 xs) (sdraws kb hh i2 l2 n2 ys) hz e2 hTO ⟨e4, e6⟩ ⟨e5, e7⟩ hx hy fun x1 x2 h' tk y1 y2 a1 a2 a3 a4 a5 a6 k => ?_
          refine hQ s1.heap.objs.size x1 x2 h' tk ⟨y1, y2⟩ (.inl ⟨_, a5, rfl, _, rfl⟩) ⟨⟨k _ _ D.TIz D.TITO D.TIi1 D.TIi2 e2, a3.1, a4.1, a3.2, a4.2⟩, .inr ⟨s1.heap.objs.size, false, _, a1, a5, lt hz, m1, m2, Nat.ne_of_gt hds⟩⟩ fun c o hc e => ?_
          exact k c o (fun q => hc (by simp [q])) (fun q => hc (by simp [q])) (fun q => hc (by simp [q])) (fun q => hc (by simp [q])) e
        · refine heldQ_item D hz hT e2 e4 e5 e6 e7 (Array.getElem?_eq_getElem hx) (Array.getElem?_eq_getElem hy) fun h' a1 a3 a4 a5 k => ?_
          refine hQ s1.heap.objs.size _ _ h' s1.toks ⟨Array.getElem?_eq_getElem hx, Array.getElem?_eq_getElem hy⟩ (.inl ⟨_, a5, rfl, _, rfl⟩) ⟨⟨k _ _ D.TIz D.TIi1 D.TIi2 e2, a3, a4, e6.at fun o e => k _ o D.l1z D.l1i1 D.l1i2 e, e7.at fun o e => k _ o D.l2z D.l2i1 D.l2i2 e⟩, .inr ⟨T, true, oT, a1, k _ _ r1 r2 r3 hT, r1, r2, r3, r4⟩⟩ fun c o hc e => ?_
          exact k c o (fun q => hc (by simp [q])) (fun q => hc (by simp [q])) (fun q => hc (by simp [q])) e
      done := fun s1 Q1 E1 ⟨⟨e2, e4, e5, e6, e7⟩, hz⟩ hQ => by
        rcases hz with ⟨hz, a, b, hTO⟩ | ⟨T, f, oT, hz, hT, r1, r2, r3, r4⟩
        · have hh : A.in1.handled = none := hA
          exact wpAny_pyNext_zipD2_end (apart_sep D) (sdraws ka hh i1 l1 n1 xs) (sdraws kb hh i2 l2 n2 ys) hz e2 hTO ⟨e4, e6⟩ ⟨e5, e7⟩ (Nat.min_le_left ..) (Nat.min_le_right ..) (by omega) fun h' tk k => hQ h' tk fun c o hc e => k c o (fun q => hc (by simp [q])) (fun q => hc (by simp [q])) (fun q => hc (by simp [q])) (fun q => hc (by simp [q])) e
        · refine heldQ_end hA D hz hT e2 e4 e5 e6 e7 ?_ fun h' k => hQ h' s1.toks fun c o hc e => k c o (fun q => hc (by simp [q])) (fun q => hc (by simp [q])) (fun q => hc (by simp [q])) e
          rcases Nat.le_total xs.size ys.size with h | h
          · exact .inl (Array.getElem?_eq_none (by rw [Nat.min_eq_left h]; exact Nat.le_refl _))
          · exact .inr (Array.getElem?_eq_none (by rw [Nat.min_eq_right h]; exact Nat.le_refl _)) }
end
def tDZQ (K : PySem.W.Frag) (ta : TA) : TE := fun σ H Q => ta σ H fun vs H1 => ∃ a b ka kb zs ys, vs = [.ref a, .ref b] ∧ Sq ka K H1 a (zs.map V.str) ∧ Sq kb K H1 b ys ∧ zs.length = ys.length ∧ ∀ p, H1 p = none → Q (.ref p) (upd H1 p (.dK (mergeK [] (zipK zs ys))))
theorem pe_dictZipQ {X : Cx} {e e2 : Expr} {ta : TA} {p p2 pos pos2 : Pos} (hcalm : X.calm = true) (hg : Gl X "zip") (hm : X.mg "zip" = none) (hg1 : Gl X "dict") (hm1 : X.mg "dict" = none) (ha : PA X [e, e2] ta)
    (hs : starEach [e, e2] X.env = (false, eval e X.env) :: starEach [e2] X.env := by rfl) (hpl : (backTo pos2 (starEach [e2] X.env)).any (·.1) = false := by rfl)
    (hs1 : starEach [.Call (.Name "zip" p2) [e, e2] [] pos2] X.env = (false, eval (.Call (.Name "zip" p2) [e, e2] [] pos2) X.env) :: starEach [] X.env := by rfl) (hpl1 : (backTo pos (starEach [] X.env)).any (·.1) = false := by rfl) :
    PE X (.Call (.Name "dict" p) [.Call (.Name "zip" p2) [e, e2] [] pos2] [] pos) (tDZQ X.K ta) := by
  refine ⟨fun pins s σ H Q I h => ?_⟩
  refine wpAny_Call_Name_kw (ld_blt I hg1 hm1 (u := .type "dict") (by decide +kernel) ?_ (by decide) (by decide))
  have body : wpAny (model X.prog X.w) X.A (eval (.Call (.Name "zip" p2) [e, e2] [] pos2) X.env) (fun u s2 => ∃ s1 a b ka kb zs ys H1 h', u = .ref (s1.heap.objs.size + 4) ∧ s2 = { s1 with heap := h' } ∧ Inv X pins σ H1 s1 ∧ Sq ka X.K H1 a (zs.map V.str) ∧ Sq kb X.K H1 b ys ∧ zs.length = ys.length ∧ (∀ p, H1 p = none → Q (.ref p) (upd H1 p (.dK (mergeK [] (zipK zs ys))))) ∧ IsZip h' (s1.heap.objs.size + 4) (s1.heap.objs.size + 2) (s1.heap.objs.size + 3) .none ∧ IsPair h' (s1.heap.objs.size + 2) (.ref s1.heap.objs.size) (.ref (s1.heap.objs.size + 1)) ∧
      IsPair h' (s1.heap.objs.size + 3) .none .none ∧ SIter ka h' s1.heap.objs.size a 0 ∧ SIter kb h' (s1.heap.objs.size + 1) b 0 ∧ h'.objs.size = s1.heap.objs.size + 5 ∧
      (∀ c o, s1.heap.get? c = some o → h'.get? c = some o)) X.xe s := by
    refine Call_ (ld_blt I hg hm PyProof.Rows.boot_zip (PyProof.Rows.callWith_type1 (thn (ha.run pos2 pins s σ H _ I h) fun us s1 ⟨vs, H1, I1, r1, q1⟩ => ?_) hs hpl))
    obtain ⟨a, b, ka, kb, zs, ys, ex, hqx, hqy, hle, q⟩ := q1
    subst ex
    cases r1 with
    | cons r rr =>
      cases rr with
      | cons r' rr =>
        cases rr
        cases r
        cases r'
        obtain ⟨its, rv, p1, _⟩ := sq_at I1 hqx
        obtain ⟨its2, rv2, p2, _⟩ := sq_at I1 hqy
        exact zip_begins2 (sbegins ka a its.toArray) (sbegins kb b its2.toArray) p1 p2 fun h' hz hTI hTO h1 h2 hsz hk => ⟨s1, a, b, ka, kb, zs, ys, H1, h', rfl, rfl, I1, hqx, hqy, hle, q, hz, hTI, hTO, siter0 h1, siter0 h2, hsz, hk⟩
  refine PyProof.Rows.callWith_type1 ?_ hs1 hpl1
  rw [hs1]
  show wpAny _ _ (spliced ((false, eval (.Call (.Name "zip" p2) [e, e2] [] pos2) X.env) :: backTo pos (starEach [] X.env))) _ _ s
  refine Calls.spliced_cons (thn body ?_)
  rintro u s2 ⟨s1, a, b, ka, kb, zs, ys, H1, h', rfl, rfl, I1, hqx, hqy, hle, q, hz, hTI, hTO, h1, h2, hsz, hk⟩
  refine Calls.spliced_nil ?_
  obtain ⟨its, rv, p1, lz1⟩ := sq_at I1 hqx
  obtain ⟨its2, rv2, p2, _⟩ := sq_at I1 hqy
  obtain ⟨prs, rel, hl, hpr⟩ := zip_kv rv rv2
  have la : a < s1.heap.objs.size := p1.lt
  have lb : b < s1.heap.objs.size := p2.lt
  have l1 := rv.length
  have l2 := rv2.length
  rw [List.length_map] at l1 lz1
  have lpr : prs.length = its.length := by rw [hl, List.length_zip]; omega
  have D := PySem.W.ktu_apart s1.heap.objs.size a b la lb
  refine call_dict_pairs (s := { s1 with heap := h' }) (knd := mixKind X.prog X.w) (kvs := prs) (zipArgQ ka kb _ _ _ _ _ a b D its.toArray its2.toArray) (I1.ok.hd hcalm) ⟨hz, hTI, ⟨_, _, hTO⟩, h1, h2, p1.at fun o e => hk _ _ e, p2.at fun o e => hk _ _ e⟩ ⟨by simp; omega, fun i k v ⟨e1, e2⟩ => ?_⟩ (Nat.le_trans (Nat.min_le_left _ _) (by rw [List.size_toArray, ← l1]; exact lz1)) fun h'' tk hd' k => ?_
  · obtain ⟨z, e3, r⟩ := hpr i k v (by simpa using e1) (by simpa using e2)
    exact ⟨_, e3, kV_is (P := X.prog) (w := X.w) (k := .inr z) r⟩
  · have hm' : (h'.objs.size == sysModules) = false := beq_eq_false_iff_ne.mpr (by rw [hsz]; exact Nat.ne_of_gt (Nat.lt_of_lt_of_le I1.big (Nat.le_add_right _ _)))
    have hlen : (mergeK [] (zipK zs ys)).length ≤ sizeLine := by
      refine Nat.le_trans (length_mergeK _ []) ?_
      rw [List.length_nil, Nat.zero_add, rel.length]
      omega
    refine ⟨.ref h'.objs.size, upd H1 h'.objs.size (.dK (mergeK [] (zipK zs ys))), I1.laid (t' := tk) (fun c o e => k c o (fun z => ?_) (hk c o e)) (by rw [hsz]; omega) (show ObjOk X.prog X.w _ _ _ (.dK (mergeK [] (zipK zs ys))) from ⟨hlen, hm', merged [] prs, KV.merge rel .nil, hd'⟩), rfl, q _ (I1.hok.fresh (by rw [hsz]; omega))⟩
    have hlt := Heap.lt_size e
    simp only [List.mem_cons, List.not_mem_nil, or_false] at z
    rcases z with z | z | z | z
    · rw [z] at hlt; exact Nat.not_lt.mpr (Nat.le_add_right _ _) hlt
    · rw [z] at hlt; exact Nat.not_lt.mpr (Nat.le_add_right _ _) hlt
    · rw [z] at hlt; exact Nat.lt_irrefl _ hlt
    · rw [z] at hlt; exact Nat.not_lt.mpr (Nat.le_add_right _ _) hlt
end Ft
set_option Elab.async false
set_option linter.all false
set_option maxRecDepth 100000
set_option maxHeartbeats 1000000
set_option pp.maxSteps 3000
set_option pp.deepTerms.threshold 8
namespace Ft
open PySem L2
mutual
def depT : Th → Nat
  | .sq ts => depTs ts + 1
  | _ => 0
def depTs : List Th → Nat
  | [] => 0
  | t :: ts => max (depT t) (depTs ts)
end
theorem ThL.down {ok : Addr → Prop} {H : Hp} : ∀ {m : Nat} {v : V} {t : Th} {k : Nat}, ThL ok H m v t → depT t ≤ k → ThL ok H k v t := by
  intro m
  induction m with
  | zero =>
    intro v t k h hk
    cases t with
    | «at» x => have := thL_at h; rw [this.1]; exact thL_at' this.2
    | dc => obtain ⟨a, kvs, e, h1, h2⟩ := thL_dc h; rw [e]; exact thL_dc' h1 h2
    | sq ts => exact h.elim
  | succ m ih =>
    intro v t k h hk
    cases t with
    | «at» x => have := thL_at h; rw [this.1]; exact thL_at' this.2
    | dc => obtain ⟨a, kvs, e, h1, h2⟩ := thL_dc h; rw [e]; exact thL_dc' h1 h2
    | sq ts =>
      rw [depT] at hk
      obtain ⟨k', rfl⟩ : ∃ k', k = k' + 1 := ⟨k - 1, by omega⟩
      obtain ⟨a, kd, xs, e, h1, h2, h3, hk3, h4⟩ := h
      refine ⟨a, kd, xs, e, h1, h2, h3, hk3, ?_⟩
      have go : ∀ {xs : List V} {ts : List Th}, depTs ts ≤ k' → Paired (ThL ok H m) xs ts → Paired (ThL ok H k') xs ts := fun {xs ts} hd h => by
        induction h with
        | nil => exact .nil
        | cons r t ih2 =>
          rw [depTs] at hd
          exact .cons (ih r (by omega)) (ih2 (by omega))
      exact go (by omega) h4
def Env (ok : Addr → Prop) (H : Hp) (σ : L2.St) (env : List (Nat × Th)) : Prop := ∀ p ∈ env, ∃ v m, σ[p.1]? = some (some v) ∧ ThL ok H m v p.2
theorem Env.to {ok ok' : Addr → Prop} {H H' : Hp} {σ : L2.St} {env : List (Nat × Th)} (h : Env ok H σ env) (k : KeepT ok ok' H H') : Env ok' H' σ env := fun p hp => by
  obtain ⟨v, m, h1, h2⟩ := h p hp
  exact ⟨v, m, h1, h2.to k⟩
theorem Env.set {ok : Addr → Prop} {H : Hp} {σ : L2.St} {env : List (Nat × Th)} {i : Nat} {x : Option V} (h : Env ok H σ env) (hi : (env.all fun p => p.1 != i) = true) : Env ok H (σ.set i x) env := fun p hp => by
  obtain ⟨v, m, h1, h2⟩ := h p hp
  have := List.all_eq_true.mp hi p hp
  refine ⟨v, m, ?_, h2⟩
  rw [List.getElem?_set_ne (by simpa using fun e : i = p.1 => by rw [← e] at this; simp at this)]
  exact h1
theorem Env.add {ok : Addr → Prop} {H : Hp} {σ : L2.St} {env : List (Nat × Th)} {i m : Nat} {v : V} {t : Th} (h : Env ok H σ env) (hi : (env.all fun p => p.1 != i) = true) (hl : i < σ.length) (hv : ThL ok H m v t) : Env ok H (σ.set i (some v)) ((i, t) :: env) := fun p hp => by
  rcases List.mem_cons.mp hp with rfl | hp
  · exact ⟨v, m, by rw [List.getElem?_set_self hl], hv⟩
  · exact h.set hi p hp
theorem mem_lookup {env : List (Nat × Th)} {i : Nat} {t : Th} : env.lookup i = some t → (i, t) ∈ env := by
  induction env with
  | nil => intro h; cases h
  | cons p env ih =>
    intro h
    obtain ⟨j, u⟩ := p
    rw [List.lookup_cons] at h
    by_cases e : i = j
    · subst e
      simp at h
      rw [h]; simp
    · have e2 : (i == j) = false := by simpa using e
      rw [e2] at h
      exact List.mem_cons_of_mem _ (ih h)
theorem yt_env {ok : Addr → Prop} {Hb : Hp} {σ : L2.St} {env : List (Nat × Th)} {i m : Nat} {t : Th} (h : Env ok Hb σ env) (hi : env.lookup i = some t) (hd : Nat.ble (depT t) m = true) : YT ok Hb m (tVar i) σ t := by
  obtain ⟨v, m', h1, h2⟩ := h _ (mem_lookup hi)
  exact yt_var h1 (h2.down (Nat.le_of_ble_eq_true hd))
/-- a list with a written one behind it -/
theorem yt_cat {ok : Addr → Prop} {Hb : Hp} {σ : L2.St} {i m : Nat} {us us2 : List Th} {ts : TA} (hf : ∀ x, Hb x = none → ok x) (hL : ∃ c vs, σ[i]? = some (some (.ref c)) ∧ Hb c = some (.lst vs) ∧ Paired (ThL ok Hb m) vs us) (hl : us.length ≤ 50) (h : YTs ok Hb m 12 ts σ us2) : YT ok Hb (m + 1) (tOp rCat (tVar i) (tLst ts)) σ (.sq (us ++ us2)) := fun H Q s q => by
  obtain ⟨c, vs, hi, hc, hv⟩ := hL
  refine ⟨_, hi, h.2 H _ s fun H1 vs2 s1 hvs2 => ?_⟩
  have l1 := h.1
  have l2 := paired_len hvs2
  have l3 := paired_len hv
  refine ⟨smallE (by omega), fun p np => ?_⟩
  have s2 : Same H1 (upd H1 p (.lst vs2)) := Same.new np
  refine ⟨c, p, vs, vs2, rfl, rfl, s2 _ _ (s1 _ _ (s _ _ hc)), upd_same, smallE (by omega), fun p2 np2 => ?_⟩
  have s3 : Same (upd H1 p (.lst vs2)) (upd (upd H1 p (.lst vs2)) p2 (.lst (vs ++ vs2))) := Same.new np2
  have s13 := Same.trans s2 s3
  have fr := Same.free (Same.trans s (Same.trans s1 s2)) np2
  refine q _ _ (Same.trans s1 s13) ⟨p2, true, _, rfl, hf p2 fr, upd_same, by rw [List.length_append]; omega, rfl, paired_append (paired_imp hv fun _ _ q => q.to (KeepT.same (Same.trans s (Same.trans s1 s13)))) (paired_imp hvs2 fun _ _ q => q.to (KeepT.same s13))⟩
/-- names in a row -/
@[reducible] def gL : List Nat → TGs
  | [] => gNil
  | i :: is => gCons (gName i) (gL is)
theorem tup_env {ok : Addr → Prop} {Hb : Hp} {σ : L2.St} {m n : Nat} {ts : TA} {us : List Th} {is : List Nat} {K : PySem.W.Frag} {D' : Ends} {rest : TS} (hg : YTs ok Hb m 12 ts σ us) (hn : us.length = n) (hi : is.length = n) (hlt : ∀ i ∈ is, i < σ.length) (hnd : is.Nodup) (q : ∀ H' σ', Same Hb H' → σ'.length = σ.length → (∀ j, j ∉ is → σ'[j]? = σ[j]?) → Env ok H' σ' (is.zip us) → rest D' σ' H') :
    tSeq (tAsg (tTup ts) (gTup K n (gL is))) rest D' σ Hb := hg.2 Hb _ (Same.refl _) fun H1 vs s1 hvs => by
  have l1 := hg.1
  have l2 := paired_len hvs
  refine ⟨smallE (by omega), fun p np => ?_⟩
  have s2 : Same H1 (upd H1 p (.tup vs)) := Same.new np
  have hvs2 := paired_imp hvs fun _ _ q => q.to (KeepT.same s2)
  have hp : (upd H1 p (.tup vs)) p = some (.tup vs) := upd_same
  refine ⟨p, vs, rfl, SqT.of hp, by omega, ?_⟩
  have same2 := Same.trans s1 s2
  generalize upd H1 p (.tup vs) = G at *
  have run : ∀ {is : List Nat} {vs : List V} {us : List Th} {σ0 : L2.St}, Paired (ThL ok G m) vs us → is.length = us.length → (∀ i ∈ is, i < σ0.length) → is.Nodup → ∀ (Q : L2.St → Hp → Prop), (∀ σ', σ'.length = σ0.length → (∀ j, j ∉ is → σ'[j]? = σ0[j]?) → Env ok G σ' (is.zip us) → Q σ' G) → gL is vs σ0 G Q := by
    intro is
    induction is with
    | nil =>
      intro vs us σ0 hv hl _ _ Q q
      cases us with
      | nil =>
        cases hv
        exact ⟨rfl, q σ0 rfl (fun _ _ => rfl) (fun p hp => by cases hp)⟩
      | cons _ _ => cases hl
    | cons i is ih =>
      intro vs us σ0 hv hl hlt hnd Q q
      cases hv with
      | nil => cases hl
      | @cons v u vs us r t =>
        rw [List.nodup_cons] at hnd
        refine ⟨v, vs, rfl, ih t (by simpa using hl) (fun j hj => by rw [List.length_set]; exact hlt j (by simp [hj])) hnd.2 Q fun σ' e1 e2 e3 => ?_⟩
        rw [List.length_set] at e1
        refine q σ' e1 (fun j hj => ?_) fun p hp => ?_
        · rw [List.mem_cons, not_or] at hj
          rw [e2 j hj.2, List.getElem?_set_ne (fun e => hj.1 e.symm)]
        · rw [List.zip_cons_cons] at hp
          rcases List.mem_cons.mp hp with rfl | hp
          · exact ⟨v, m, by rw [e2 i hnd.1, List.getElem?_set_self (hlt i (by simp))], r⟩
          · exact e3 p hp
  exact run hvs2 (by omega) hlt hnd _ fun σ' e1 e2 e3 => q _ σ' same2 e1 e2 e3
def okc (H0 : Hp) (c x : Addr) : Prop := H0 x = none ∧ x ≠ c
structure PS (H0 : Hp) (n : Nat) (σ : L2.St) (H : Hp) (c : Addr) (L : Nat) (env : List (Nat × Th)) (us : List Th) : Prop where
  s : Same H0 H
  nc : H0 c = none
  len : σ.length = L
  lt : n < L
  l : σ[n]? = some (some (.ref c))
  v : ∃ vs, H c = some (.lst vs) ∧ Paired (ThL (okc H0 c) H 7) vs us
  e : Env (okc H0 c) H σ env
theorem PS.hf {H0 H : Hp} {n : Nat} {σ : L2.St} {c : Addr} {L : Nat} {env : List (Nat × Th)} {us : List Th} (S : PS H0 n σ H c L env us) : ∀ x, H x = none → okc H0 c x := fun x hx => ⟨Same.free S.s hx, fun e => by
  obtain ⟨vs, h, _⟩ := S.v
  rw [e, h] at hx; cases hx⟩
theorem PS.same {H0 H H' : Hp} {n : Nat} {σ : L2.St} {c : Addr} {L : Nat} {env : List (Nat × Th)} {us : List Th} (S : PS H0 n σ H c L env us) (s : Same H H') : PS H0 n σ H' c L env us := by
  obtain ⟨vs, h1, h2⟩ := S.v
  exact ⟨Same.trans S.s s, S.nc, S.len, S.lt, S.l, ⟨vs, s _ _ h1, paired_imp h2 fun _ _ q => q.to (KeepT.same s)⟩, S.e.to (KeepT.same s)⟩
theorem plp_app {H0 H : Hp} {n : Nat} {σ : L2.St} {c : Addr} {L : Nat} {env : List (Nat × Th)} {us : List Th} {K : PySem.W.Frag} {te : TE} {t : Th} {D' : Ends} {rest : TS} (S : PS H0 n σ H c L env us) (hl : us.length ≤ 50) (h : YT (okc H0 c) H 7 te σ t) (q : ∀ H', PS H0 n σ H' c L env (us ++ [t]) → rest D' σ H') :
    tSeq (tDrop (tBM K "list" rAppend (tVar n) (tCons te tNil))) rest D' σ H := by
  obtain ⟨vs, h1, h2⟩ := S.v
  refine ⟨_, S.l, .inl ⟨rfl, _, SqL.of h1⟩, h H _ (Same.refl H) fun H1 v s1 hv => ?_⟩
  have h3 := s1 _ _ h1
  have k : KeepT (okc H0 c) (okc H0 c) H1 (upd H1 c (.lst (vs ++ [v]))) := fun b o k _ e => ⟨k, by rw [upd_ne k.2]; exact e⟩
  refine ⟨c, vs, v, rfl, rfl, h3, small (by have := paired_len h2; omega), q _ ⟨Same.upN (Same.trans S.s s1) S.nc, S.nc, S.len, S.lt, S.l, ⟨_, upd_same, ?_⟩, (S.e.to (KeepT.same s1)).to k⟩⟩
  exact paired_app (hv.to k) (paired_imp h2 fun _ _ q => (q.to (KeepT.same s1)).to k)
theorem plp_set {H0 H : Hp} {n : Nat} {σ : L2.St} {c : Addr} {L : Nat} {env : List (Nat × Th)} {us us2 : List Th} {m i : Nat} {ts : TA} {D' : Ends} {rest : TS} (S : PS H0 n σ H c L env us) (h : YTs (okc H0 c) H m 12 ts σ us2) (hi : (env.all fun p => p.1 != i) = true) (hn : Nat.beq i n = false) (hlt : Nat.blt i L = true) (q : ∀ H' v, PS H0 n (σ.set i (some v)) H' c L ((i, .sq us2) :: env) us → rest D' (σ.set i (some v)) H') :
    tSeq (tAsg (tLst ts) (gName i)) rest D' σ H := h.2 H _ (Same.refl H) fun H1 vs s1 hvs => by
  have l1 := h.1
  have l2 := paired_len hvs
  refine ⟨smallE (by omega), fun p np => ?_⟩
  have s2 := Same.trans s1 (Same.new np (o := .lst vs))
  have S2 := S.same s2
  have hne : i ≠ n := fun e => by rw [e, Nat.beq_refl] at hn; cases hn
  have hlt' : i < L := Nat.le_of_ble_eq_true hlt
  refine q _ (.ref p) ⟨S2.s, S.nc, by rw [List.length_set]; exact S.len, S.lt, by rw [List.getElem?_set_ne hne]; exact S.l, S2.v, ?_⟩
  refine S2.e.add (m := m + 1) hi (by rw [S.len]; exact hlt') ⟨p, true, vs, rfl, (S.same s1).hf p np, upd_same, by omega, rfl, paired_imp hvs fun _ _ q => q.to (KeepT.same (Same.new np))⟩
theorem plp_cat {H0 H : Hp} {n : Nat} {σ : L2.St} {c : Addr} {L : Nat} {env : List (Nat × Th)} {us us2 : List Th} {ts : TA} {D' : Ends} {rest : TS} (S : PS H0 n σ H c L env us) (hl : us.length ≤ 50) (h : YTs (okc H0 c) H 7 12 ts σ us2) (hi : (env.all fun p => p.1 != n) = true) (q : ∀ H' c', PS H0 n (σ.set n (some (.ref c'))) H' c' L env (us ++ us2) → rest D' (σ.set n (some (.ref c'))) H') :
    tSeq (tAsg (tOp rCat (tVar n) (tLst ts)) (gName n)) rest D' σ H := by
  obtain ⟨vs, h1, h2⟩ := S.v
  refine ⟨_, S.l, h.2 H _ (Same.refl H) fun H1 vs2 s1 hvs2 => ?_⟩
  have l1 := h.1
  have l2 := paired_len hvs2
  have l3 := paired_len h2
  refine ⟨smallE (by omega), fun p np => ?_⟩
  have s2 : Same H1 (upd H1 p (.lst vs2)) := Same.new np
  refine ⟨c, p, vs, vs2, rfl, rfl, s2 _ _ (s1 _ _ h1), upd_same, smallE (by omega), fun p2 np2 => ?_⟩
  have s12 := Same.trans s1 s2
  have S2 := S.same s12
  have hn2 : H0 p2 = none := Same.free S2.s np2
  generalize hG : upd H1 p (.lst vs2) = G at *
  have kc : KeepT (okc H0 c) (okc H0 p2) G (upd G p2 (.lst (vs ++ vs2))) := fun b o k _ e => ⟨⟨k.1, ne_of_none e np2⟩, by rw [upd_ne (ne_of_none e np2)]; exact e⟩
  refine q _ p2 ⟨Same.upN S2.s hn2, hn2, by rw [List.length_set]; exact S.len, S.lt, by rw [List.getElem?_set_self (by rw [S.len]; exact S.lt)], ⟨_, upd_same, ?_⟩, (S2.e.to kc).set hi⟩
  exact paired_append (paired_imp h2 fun _ _ q => (q.to (KeepT.same s12)).to kc) (paired_imp hvs2 fun _ _ q => (q.to (KeepT.same s2)).to kc)
theorem Env.keep {ok : Addr → Prop} {H : Hp} {σ σ' : L2.St} {env : List (Nat × Th)} {is : List Nat} (h : Env ok H σ env) (hs : ∀ j, j ∉ is → σ'[j]? = σ[j]?) (hi : (env.all fun p => !is.contains p.1) = true) : Env ok H σ' env := fun p hp => by
  obtain ⟨v, m, h1, h2⟩ := h p hp
  have := List.all_eq_true.mp hi p hp
  exact ⟨v, m, by rw [hs p.1 (by simpa using this)]; exact h1, h2⟩
theorem Env.app {ok : Addr → Prop} {H : Hp} {σ : L2.St} {a b : List (Nat × Th)} (h : Env ok H σ a) (h2 : Env ok H σ b) : Env ok H σ (a ++ b) := fun p hp => (List.mem_append.mp hp).elim (h p) (h2 p)
theorem par_lt {ok : Addr → Prop} {Hb : Hp} {m i j : Nat} {σ : L2.St} {ts : TA} {te : TE} {us : List Th} {t : Th} {D' : Ends} {rest : TS} (hf : ∀ x, Hb x = none → ok x) (hg : YTs ok Hb m 12 ts σ us) (ht : YT ok Hb m te σ t) (q : ∀ H' c vs v, Same Hb H' → ok c → H' c = some (.lst vs) → Paired (ThL ok H' m) vs us → ThL ok H' m v t → rest D' ((σ.set i (some (.ref c))).set j (some v)) H') : tSeq (tPar i j (tCons (tLst ts) (tCons te tNil))) rest D' σ Hb := hg.2 Hb _ (Same.refl _) fun H1 vs s1 hvs => by
  have l1 := hg.1
  have l2 := paired_len hvs
  refine ⟨smallE (by omega), fun p np => ht _ _ (Same.trans s1 (Same.new np)) fun H2 v s2 hv => ⟨_, _, rfl, ?_⟩⟩
  have s12 := Same.trans (Same.new np (o := .lst vs)) s2
  exact q _ p vs v (Same.trans s1 s12) (hf p (Same.free s1 np)) (s2 _ _ upd_same) (paired_imp hvs fun _ _ q => q.to (KeepT.same s12)) hv
theorem pl_found {H0 H : Hp} {n : Nat} {σ : L2.St} {L : Nat} {env : List (Nat × Th)} {us : List Th} {ts : TA} {D' : Ends} {rest : TS} (s : Same H0 H) (he : Env (fun x => H0 x = none) H σ env) (hl : σ.length = L) (hn : Nat.blt n L = true) (h : YTs (fun x => H0 x = none) H 7 12 ts σ us) (hi : (env.all fun p => p.1 != n) = true) (q : ∀ H' c, PS H0 n (σ.set n (some (.ref c))) H' c L env us → rest D' (σ.set n (some (.ref c))) H') :
    tSeq (tAsg (tLst ts) (gName n)) rest D' σ H := h.2 H _ (Same.refl H) fun H1 vs s1 hvs => by
  have l1 := h.1
  have l2 := paired_len hvs
  refine ⟨smallE (by omega), fun p np => ?_⟩
  have hn' : n < L := Nat.le_of_ble_eq_true hn
  have s2 := Same.trans s s1
  have np0 : H0 p = none := Same.free s2 np
  have k : KeepT (fun x => H0 x = none) (okc H0 p) H1 (upd H1 p (.lst vs)) := fun b o k _ e => ⟨⟨k, ne_of_none e np⟩, by rw [upd_ne (ne_of_none e np)]; exact e⟩
  exact q _ p ⟨Same.upN s2 np0, np0, by rw [List.length_set]; exact hl, hn', by rw [List.getElem?_set_self (by rw [hl]; exact hn')], ⟨vs, upd_same, paired_imp hvs fun _ _ q => q.to k⟩, ((he.to (KeepT.same s1)).to k).set hi⟩
theorem putK_newB {kvs : List (Key × V)} {k : Key} {v : V} (h : k ∉ kvs.map (·.1)) : putK kvs k v = kvs ++ [(k, v)] := by
  unfold putK
  rw [if_neg]
  intro z
  obtain ⟨kv, hkv, e⟩ := List.any_eq_true.mp z
  exact h (List.mem_map.mpr ⟨kv, hkv, of_decide_eq_true e⟩)
theorem mergeK_ndB : ∀ {more acc : List (Key × V)}, ((acc ++ more).map (·.1)).Nodup → mergeK acc more = acc ++ more
  | [], acc, _ => by rw [List.append_nil]; rfl
  | kv :: more, acc, h => by
    show mergeK (putK acc kv.1 kv.2) more = _
    have hk : kv.1 ∉ acc.map (·.1) := by
      rw [List.map_append, List.nodup_append] at h
      exact fun z => h.2.2 _ z _ (by simp) rfl
    have h' : (((acc ++ [kv]) ++ more).map (·.1)).Nodup := by rw [List.append_assoc]; exact h
    rw [putK_newB hk]
    show mergeK (acc ++ [kv]) more = _
    rw [mergeK_ndB h', List.append_assoc]
    rfl
end Ft
set_option Elab.async false
set_option linter.all false
set_option maxRecDepth 100000
set_option maxHeartbeats 2000000
set_option pp.maxSteps 5000
set_option pp.deepTerms.threshold 10
namespace Ft
open PySem L2
def nmD : List Str := ["x", "y", "z", "f"]
def rwD (z1 z2 z3 z5 : Str) (j1 j2 : Int) : List Row := [.plain "load" [.str z1, .str z3], .plain "pick" [.str z1, .str z3, .str z2], .plain "put" [.str z1, .int j1], .plain "copy" [.str z1, .str z2], .plain "part" [.str z1, .str z2, .str z5], .plain "drop" [.str z1], .plain "say" [.int j2], .plain "tell" [.str z1], .plain "seen" [.str z1, .str z3], .plain "call" [.str z1], .when z1 [.plain "tell" [.str z2]] [.plain "say" [.int 2]], .plain "fail" [.int 1]]
theorem rwD_ok {z1 z2 z3 z5 : Str} {j1 j2 : Int} (h1 : isW z1 = true) (h2 : isW z2 = true) (h3 : isW z3 = true) (h5 : isW z5 = true) (i1 : fldOk false (.int j1) = true) (i2 : fldOk false (.int j2) = true) {r : Row} (hr : r ∈ rwD z1 z2 z3 z5 j1 j2) : toT 2 r = toT 3 r ∧ RowOk 2 false r ∧ RowOk 3 false r := by
  have p1 : ∀ {w : Str} {ks : List Bool} {fs : List V}, (w, ks) ∈ plainT → Paired (fun k v => fldOk k v = true) ks fs → toT 2 (.plain w fs) = toT 3 (.plain w fs) ∧ RowOk 2 false (.plain w fs) ∧ RowOk 3 false (.plain w fs) := fun hk hp => ⟨rfl, ⟨_, hk, hp, fun h => nomatch h⟩, ⟨_, hk, hp, fun h => nomatch h⟩⟩
  have q : ∀ {d : Nat}, RowOk (d + 1) false (.when z1 [.plain "tell" [.str z2]] [.plain "say" [.int 2]]) := fun {d} => by
    refine ⟨h1, Nat.le_of_ble_eq_true rfl, Nat.le_of_ble_eq_true rfl, fun r hr => ?_, fun r hr => ?_⟩
    · rw [List.mem_singleton.mp hr]
      cases d <;> exact ⟨[true], by decide +kernel, .cons h2 .nil, fun h => nomatch h⟩
    · rw [List.mem_singleton.mp hr]
      cases d <;> exact ⟨[false], by decide +kernel, .cons (by decide +kernel) .nil, fun h => nomatch h⟩
  simp only [rwD, List.mem_cons, List.not_mem_nil, or_false] at hr
  rcases hr with rfl | rfl | rfl | rfl | rfl | rfl | rfl | rfl | rfl | rfl | rfl | rfl
  · exact p1 (ks := [true, true]) (by decide +kernel) (.cons h1 (.cons h3 .nil))
  · exact p1 (ks := [true, true, true]) (by decide +kernel) (.cons h1 (.cons h3 (.cons h2 .nil)))
  · exact p1 (ks := [true, false]) (by decide +kernel) (.cons h1 (.cons i1 .nil))
  · exact p1 (ks := [true, true]) (by decide +kernel) (.cons h1 (.cons h2 .nil))
  · exact p1 (ks := [true, true, true]) (by decide +kernel) (.cons h1 (.cons h2 (.cons h5 .nil)))
  · exact p1 (ks := [true]) (by decide +kernel) (.cons h1 .nil)
  · exact p1 (ks := [false]) (by decide +kernel) (.cons i2 .nil)
  · exact p1 (ks := [true]) (by decide +kernel) (.cons h1 .nil)
  · exact p1 (ks := [true, true]) (by decide +kernel) (.cons h1 (.cons h3 .nil))
  · exact p1 (ks := [true]) (by decide +kernel) (.cons h1 .nil)
  · exact ⟨rfl, q, q⟩
  · exact p1 (ks := [false]) (by decide +kernel) (.cons (by decide +kernel) .nil)
section
variable {ok : Addr → Prop} {a : Addr} {N : Int} {Hb : Hp} {G : Th → Prop} {m n d d2 : Nat} {te : TE} {ts : TA} {σ : L2.St} {T : List Th → Prop}
/-- te yields a thing of the kind G, with d draws at most -/
def YD (ok : Addr → Prop) (a : Addr) (N : Int) (Hb : Hp) (G : Th → Prop) (m d : Nat) (te : TE) (σ : L2.St) : Prop := ∀ (H : Hp) (n : Int) (Q : VK), Fr (· ≠ a) Hb H → Src H a n → n + d ≤ N → (∀ H' v t n', Fr (· ≠ a) H H' → Src H' a n' → n ≤ n' → n' ≤ n + d → ThL ok H' m v t → G t → Q v H') → te σ H Q
def YDs (ok : Addr → Prop) (a : Addr) (N : Int) (Hb : Hp) (T : List Th → Prop) (m d : Nat) (ts : TA) (σ : L2.St) : Prop := ∀ (H : Hp) (n : Int) (Q : List V → Hp → Prop), Fr (· ≠ a) Hb H → Src H a n → n + d ≤ N → (∀ H' vs us n', Fr (· ≠ a) H H' → Src H' a n' → n ≤ n' → n' ≤ n + d → Paired (ThL ok H' m) vs us → T us → Q vs H') → ts σ H Q
theorem yd_yt (t : Th) (h : ∀ H n, Fr (· ≠ a) Hb H → Src H a n → YT ok H m te σ t) (g : G t) : YD ok a N Hb G m 0 te σ := fun H n Q f s hn q => h H n f s H Q (Same.refl H) fun H' v s2 hv => q H' v t n (Fr.same s2) (s.fr (ok := fun _ => True) (Fr.same s2) trivial) (by omega) (by omega) hv g
theorem yds_nil (h : T []) : YDs ok a N Hb T m 0 tNil σ := fun H n Q f s hn q => q H [] [] n Fr.refl s (by omega) (by omega) .nil h
theorem yds_cons {T2 : List Th → Prop} (oka : ∀ x, ok x → x ≠ a) (h1 : YD ok a N Hb G m d te σ) (h2 : YDs ok a N Hb T2 m d2 ts σ) (hT : ∀ t us, G t → T2 us → T (t :: us)) : YDs ok a N Hb T m (d + d2) (tCons te ts) σ := fun H n Q f s hn q => by
  refine h1 H n _ f s (by omega) fun H1 v t n1 f1 s1 a1 b1 hv g => ?_
  refine h2 H1 n1 _ (f.trans f1) s1 (by omega) fun H2 vs us n2 f2 s2 a2 b2 hvs g2 => ?_
  exact q H2 (v :: vs) (t :: us) n2 (f1.trans f2) s2 (by omega) (by omega) (.cons (hv.to (KeepT.fr (f2.mono oka) fun _ k => k)) hvs) (hT t us g g2)
theorem yf_t {T2 : List Th → Prop} (oka : ∀ x, ok x → x ≠ a) (t : Th) (h : ∀ H n, Fr (· ≠ a) Hb H → Src H a n → YT ok H m te σ t) (h2 : YDs ok a N Hb T2 m d2 ts σ) : YDs ok a N Hb (fun us => ∃ u, us = t :: u ∧ T2 u) m (0 + d2) (tCons te ts) σ := yds_cons oka (G := (· = t)) (yd_yt t h rfl) h2 fun t' us e g => ⟨us, by rw [e], g⟩
theorem yf_d (oka : ∀ x, ok x → x ≠ a) (h : YD ok a N Hb G m d te σ) : YDs ok a N Hb (fun us => ∃ t, us = [t] ∧ G t) m (d + 0) (tCons te tNil) σ := yds_cons oka (T2 := (· = [])) h (yds_nil rfl) fun t us g e => ⟨t, by rw [e], g⟩
theorem yd_tup (hf : ∀ H n, Fr (· ≠ a) Hb H → Src H a n → ∀ x, H x = none → ok x) (h : YDs ok a N Hb T m d ts σ) (hT : ∀ us, T us → us.length ≤ 12 ∧ kdT false us = true ∧ G (.sq us)) : YD ok a N Hb G (m + 1) d (tTup ts) σ := fun H n Q f s hn q => h H n _ f s hn fun H1 vs us n1 f1 s1 a1 b1 hvs g => by
  have l2 := paired_len hvs
  have l1 := (hT us g).1
  exact ⟨smallE (by omega), fun p np => q _ _ (.sq us) n1 (f1.upN (f1.free (s1.nn np) np)) (s1.new np) a1 b1 ⟨p, false, vs, rfl, hf H1 n1 (f.trans f1) s1 p np, upd_same, by omega, (hT us g).2.1, paired_imp hvs fun _ _ q => q.to (KeepT.same (Same.new np))⟩ (hT us g).2.2⟩
/-- a list of good things -/
theorem ydl (hf : ∀ H n, Fr (· ≠ a) Hb H → Src H a n → ∀ x, H x = none → ok x) (h : YDs ok a N Hb T m d ts σ) (hT : ∀ us, T us → us.length ≤ 12) {H : Hp} {n : Int} {Q : VK} (f : Fr (· ≠ a) Hb H) (s : Src H a n) (hn : n + d ≤ N) (q : ∀ H' c vs us n', Fr (· ≠ a) H H' → Src H' a n' → n ≤ n' → n' ≤ n + d → c ≠ a → H' c = some (.lst vs) → Paired (ThL ok H' m) vs us → T us → Q (.ref c) H') : tLst ts σ H Q :=
  h H n _ f s hn fun H1 vs us n1 f1 s1 a1 b1 hvs g => by
  have l2 := paired_len hvs
  have l1 := hT us g
  exact ⟨smallE (by omega), fun p np => q _ p vs us n1 (f1.upN (f1.free (s1.nn np) np)) (s1.new np) a1 b1 (s1.nn np) upd_same (paired_imp hvs fun _ _ q => q.to (KeepT.same (Same.new np))) g⟩
/-- a list with more behind it -/
theorem ydc (hf : ∀ H n, Fr (· ≠ a) Hb H → Src H a n → ∀ x, H x = none → ok x) (oka : ∀ x, ok x → x ≠ a) (h : YDs ok a N Hb T m d ts σ) (hT : ∀ us, T us → us.length ≤ 12) {H : Hp} {n : Int} {Q : VK} {i : Nat} {c : Addr} {vs : List V} {us : List Th} (f : Fr (· ≠ a) Hb H) (s : Src H a n) (hn : n + d ≤ N) (hi : σ[i]? = some (some (.ref c))) (ca : c ≠ a) (hc : H c = some (.lst vs)) (hv : Paired (ThL ok H m) vs us) (hl : us.length ≤ 50)
    (q : ∀ H' c vs us2 n', Fr (· ≠ a) H H' → Src H' a n' → n ≤ n' → n' ≤ n + d → c ≠ a → H' c = some (.lst vs) → Paired (ThL ok H' m) vs (us ++ us2) → T us2 → Q (.ref c) H') : tOp rCat (tVar i) (tLst ts) σ H Q := ⟨_, hi, by
  refine ydl hf h hT f s hn fun H1 c2 vs2 us2 n1 f1 s1 a1 b1 k2 hc2 hv2 g => ?_
  have l3 := paired_len hv
  have l4 := paired_len hv2
  have l5 := hT us2 g
  refine ⟨c, c2, vs, vs2, rfl, rfl, f1 _ _ ca hc, hc2, smallE (by omega), fun p np => ?_⟩
  have s3 : Same H1 (upd H1 p (.lst (vs ++ vs2))) := Same.new np
  exact q _ p _ us2 n1 (f1.upN (f1.free (s1.nn np) np)) (s1.new np) a1 b1 (s1.nn np) upd_same (paired_append (paired_imp hv fun _ _ q => (q.to (KeepT.fr (f1.mono oka) fun _ k => k)).to (KeepT.same s3)) (paired_imp hv2 fun _ _ q => q.to (KeepT.same s3))) g⟩
theorem ydl_set {D' : Ends} {rest : TS} {j : Nat} (hf : ∀ H n, Fr (· ≠ a) Hb H → Src H a n → ∀ x, H x = none → ok x) (h : YDs ok a N Hb T m d ts σ) (hT : ∀ us, T us → us.length ≤ 12) {H : Hp} {n : Int} (f : Fr (· ≠ a) Hb H) (s : Src H a n) (hn : n + d ≤ N) (q : ∀ H' c vs us n', Fr (· ≠ a) H H' → Src H' a n' → n ≤ n' → n' ≤ n + d → c ≠ a → H' c = some (.lst vs) → Paired (ThL ok H' m) vs us → T us → rest D' (σ.set j (some (.ref c))) H') : tSeq (tAsg (tLst ts) (gName j)) rest D' σ H :=
  ydl (Q := fun v H1 => rest D' (σ.set j (some v)) H1) hf h hT f s hn q
theorem ydc_set {D' : Ends} {rest : TS} {i j : Nat} (hf : ∀ H n, Fr (· ≠ a) Hb H → Src H a n → ∀ x, H x = none → ok x) (oka : ∀ x, ok x → x ≠ a) {c : Addr} {vs : List V} {us : List Th} (hi : σ[i]? = some (some (.ref c))) (h : YDs ok a N Hb T m d ts σ) (hT : ∀ us, T us → us.length ≤ 12) {H : Hp} {n : Int} (f : Fr (· ≠ a) Hb H) (s : Src H a n) (hn : n + d ≤ N) (ca : c ≠ a) (hc : H c = some (.lst vs)) (hv : Paired (ThL ok H m) vs us) (hl : us.length ≤ 50)
    (q : ∀ H' c vs us2 n', Fr (· ≠ a) H H' → Src H' a n' → n ≤ n' → n' ≤ n + d → c ≠ a → H' c = some (.lst vs) → Paired (ThL ok H' m) vs (us ++ us2) → T us2 → rest D' (σ.set j (some (.ref c))) H') : tSeq (tAsg (tOp rCat (tVar i) (tLst ts)) (gName j)) rest D' σ H :=
  ydc (Q := fun v H1 => rest D' (σ.set j (some v)) H1) hf oka h hT f s hn hi ca hc hv hl q
/-- good things, k of them -/
def GsD (G : Th → Prop) (k : Nat) (us : List Th) : Prop := us.length = k ∧ ∀ u ∈ us, G u
theorem gsd_nil {m : Nat} : YDs ok a N Hb (GsD G 0) m 0 tNil σ := yds_nil ⟨rfl, by simp⟩
theorem gsd_cons {k : Nat} (oka : ∀ x, ok x → x ≠ a) (h1 : YD ok a N Hb G m d te σ) (h2 : YDs ok a N Hb (GsD G k) m d2 ts σ) : YDs ok a N Hb (GsD G (k + 1)) m (d + d2) (tCons te ts) σ := yds_cons oka h1 h2 fun t us g e => ⟨by rw [List.length_cons, e.1], fun u hu => (List.mem_cons.mp hu).elim (fun z => z ▸ g) (e.2 u)⟩
theorem gsd_le {k : Nat} (hk : k ≤ 12) : ∀ us, GsD G k us → us.length ≤ 12 := fun us h => by rw [h.1]; exact hk
end
def GoodD (t : Th) : Prop := ∃ r, t = toT 2 r ∧ toT 2 r = toT 3 r ∧ RowOk 2 false r ∧ RowOk 3 false r
section
variable {ok : Addr → Prop} {a : Addr} {N : Int} {Hb : Hp} {G : Th → Prop} {m : Nat} {σ : L2.St}
theorem yd_draw {i : Nat} {mk : Int} (h0 : σ[i]? = some (some (.ref a))) (hN : N ≤ 2 ^ 40) (hm : 0 < mk) (hm2 : mk < 1000) : YD ok a N Hb (fun t => ∃ j : Int, 0 ≤ j ∧ j < mk ∧ t = .at (.int j)) m 1 (tCall spLDraw [] E0 (tCons (tVar i) (tCons (tC (.int mk)) tNil))) σ := fun H n Q f s hn q =>
  ⟨_, h0, a, mk, n, rfl, s, by omega, hm, by omega, fun H' k f' s' k0 k1 => q H' (.int k) (.at (.int k)) (n + 1) f' s' (by omega) (by omega) (thL_at' rfl) ⟨k, k0, k1, rfl⟩⟩
theorem yd_pick {i j : Nat} {c : Addr} {zs : List Str} (h0 : σ[i]? = some (some (.ref a))) (h1 : σ[j]? = some (some (.ref c))) (ca : c ≠ a) (hc : Hb c = some (.lst (zs.map V.str))) (hz : zs ≠ []) (lz : zs.length ≤ 10) (wz : ∀ z ∈ zs, isW z = true) (hN : N ≤ 2 ^ 40) : YD ok a N Hb (fun t => ∃ z, isW z = true ∧ t = .at (.str z)) m 1 (tCall spLPick [] E0 (tCons (tVar i) (tCons (tVar j) tNil))) σ := fun H n Q f s hn q =>
  ⟨_, h0, _, h1, a, c, zs.map V.str, n, rfl, s, by omega, ca, f _ _ ca hc, by simpa using hz, by rw [List.length_map]; omega, fun H' x f' s' hx => by
    obtain ⟨z, hz, rfl⟩ := List.mem_map.mp hx
    exact q H' _ (.at (.str z)) (n + 1) f' s' (by omega) (by omega) (thL_at' (small_word (wz z hz))) ⟨z, wz z hz, rfl⟩⟩
end
section
variable {P : PySem.Program} {w : World} {K : PySem.W.Frag} {mg : Str → Option Value} {base : Heap}
abbrev sLSomeRow : Stmt := topS 47
theorem scLSomeRow : FnScope ["_law_source_here", "_law_words", "_law_names", "_law_name", "_law_other", "_law_module", "_law_some_here", "_law_found"] ["_law_source_here", "_law_words"] (defScope sLSomeRow) := ⟨rfl, rfl, rfl, by decide +kernel, rfl, by decide +kernel, by decide +kernel⟩
def spLSomeRow : Sp := fun vs H Q _ => ∃ (a wl : Addr) (n : Int) (ws : List Str), vs = [.ref a, .ref wl] ∧ Src H a n ∧ n < 2 ^ 39 ∧ wl ≠ a ∧ H wl = some (.lst (ws.map V.str)) ∧ ws.length ≤ 10 ∧ (∀ z ∈ ws, isW z = true) ∧
  ∀ H' v r n', Fr (· ≠ a) H H' → Src H' a n' → n ≤ n' → n' ≤ n + 20 → RowAt (fun x => H x = none) anyK H' 3 v r → RowOk 3 false r → Q v H'
theorem ok_LSomeRow {f : Addr} {fd : FuncData} {k : Nat} (F : Fun K "_law_some_row" "_law_some_row" sLSomeRow f fd) (B : Bl mg) (hk : 2 ≤ k) (gLDraw : Own P w K mg base 1 "_law_draw" ["_law_source_here", "_law_many"] spLDraw) (gLPick : Own P w K mg base 2 "_law_pick" ["_law_source_here", "_law_some_here"] spLPick) : FnOk P w K mg base CX0 (k + 1) f fd ["_law_source_here", "_law_words"] spLSomeRow := by
  refine F.ok scLSomeRow (fun vs H Q E h => ?_) (fun cdv A outer s H vs Q E hr h => ?_)
  · obtain ⟨a, wl, n, ws, rfl, _⟩ := h
    rfl
  obtain ⟨a, wl, n, ws, rfl, sr, hn, wa, hw, lw, hws, q⟩ := h
  refine ⟨_, (pss_cons (ps_set (i := 2) scLSomeRow.nd rfl (by first | exact Or.inl rfl | exact Or.inr rfl) (pe_lst (pa_cons pe_str (pa_cons pe_str (pa_cons pe_str (pa_cons pe_str pa_nil))))))
      (pss_cons (ps_par3 (i := 3) (j := 4) (l := 5) (by rfl) scLSomeRow.nd rfl rfl rfl (by decide) (by decide) (by decide) rfl rfl rfl (pa_cons (pe_own gLPick (hr.mono (by omega)) (by rfl) (pa_cons (pv 0) (pa_cons (pv 2) pa_nil))) (pa_cons (pe_own gLPick (hr.mono (by omega)) (by rfl) (pa_cons (pv 0) (pa_cons (pv 2) pa_nil))) (pa_cons (pe_own gLPick (hr.mono (by omega)) (by rfl) (pa_cons (pv 0) (pa_cons (pe_op op_cat (pv 1) (pe_lst (pa_cons pe_str pa_nil))) pa_nil))) pa_nil))) (by rfl))
      (pss_cons (ps_set (i := 6) scLSomeRow.nd rfl (by first | exact Or.inl rfl | exact Or.inr rfl) (pe_lst (pa_cons (pe_tup (pa_cons pe_str (pa_cons (pv 3) (pa_cons (pv 5) pa_nil)))) (pa_cons (pe_tup (pa_cons pe_str (pa_cons (pv 3) (pa_cons (pv 5) (pa_cons (pv 4) pa_nil))))) (pa_cons (pe_tup (pa_cons pe_str (pa_cons (pv 3) (pa_cons (pe_own gLDraw (hr.mono (by omega)) (by rfl) (pa_cons (pv 0) (pa_cons pe_int pa_nil))) pa_nil)))) pa_nil)))))
      (pss_cons (ps_set (i := 6) scLSomeRow.nd rfl (by first | exact Or.inl rfl | exact Or.inr rfl) (pe_op op_cat (pv 6) (pe_lst (pa_cons (pe_tup (pa_cons pe_str (pa_cons (pv 3) (pa_cons (pv 4) pa_nil)))) (pa_cons (pe_tup (pa_cons pe_str (pa_cons (pv 3) (pa_cons (pv 4) (pa_cons (pe_own gLPick (hr.mono (by omega)) (by rfl) (pa_cons (pv 0) (pa_cons (pv 2) pa_nil))) pa_nil))))) (pa_cons (pe_tup (pa_cons pe_str (pa_cons (pv 3) pa_nil))) pa_nil))))))
      (pss_cons (ps_set (i := 6) scLSomeRow.nd rfl (by first | exact Or.inl rfl | exact Or.inr rfl) (pe_op op_cat (pv 6) (pe_lst (pa_cons (pe_tup (pa_cons pe_str (pa_cons (pe_own gLDraw (hr.mono (by omega)) (by rfl) (pa_cons (pv 0) (pa_cons pe_int pa_nil))) pa_nil))) (pa_cons (pe_tup (pa_cons pe_str (pa_cons (pv 3) pa_nil))) (pa_cons (pe_tup (pa_cons pe_str (pa_cons (pv 3) (pa_cons (pv 5) pa_nil)))) (pa_cons (pe_tup (pa_cons pe_str (pa_cons (pv 3) pa_nil))) pa_nil)))))))
      (pss_cons (ps_set (i := 6) scLSomeRow.nd rfl (by first | exact Or.inl rfl | exact Or.inr rfl) (pe_op op_cat (pv 6) (pe_lst (pa_cons (pe_tup (pa_cons pe_str (pa_cons (pv 3) (pa_cons (pe_lst (pa_cons (pe_tup (pa_cons pe_str (pa_cons (pv 4) pa_nil))) pa_nil)) (pa_cons (pe_lst (pa_cons (pe_tup (pa_cons pe_str (pa_cons pe_int pa_nil))) pa_nil)) pa_nil))))) (pa_cons (pe_tup (pa_cons pe_str (pa_cons pe_int pa_nil))) pa_nil)))))
      (pss_cons (ps_set (i := 7) scLSomeRow.nd rfl (by first | exact Or.inl rfl | exact Or.inr rfl) (pe_own gLPick (hr.mono (by omega)) (by rfl) (pa_cons (pv 0) (pa_cons (pv 6) pa_nil))))
      (pss_one (ps_ret (pe_ifExp (pt_cmpR op_eq (pe_own gLDraw (hr.mono (by omega)) (by rfl) (pa_cons (pv 0) (pa_cons pe_int pa_nil))) pe_int (nomark _)) (pe_tup (pa_cons pe_str (pa_cons (pe_lst (pa_cons (pv 7) pa_nil)) (pa_cons (pe_lst (pa_cons (pe_tup (pa_cons pe_str (pa_cons pe_int pa_nil))) pa_nil)) pa_nil)))) (pv 7))))))))))), ?_⟩
  refine ⟨by show 4 ≤ sizeLine; decide, fun nl nnl => ?_⟩
  have s1 : Same H (upd H nl (.lst (nmD.map V.str))) := Same.new nnl
  have hnl : (upd H nl (.lst (nmD.map V.str))) nl = some (.lst (nmD.map V.str)) := upd_same
  have na : nl ≠ a := sr.nn nnl
  have sr1 : Src (upd H nl (.lst (nmD.map V.str))) a n := sr.new nnl
  refine (?_ : tSeq _ _ _ _ (upd H nl (.lst (nmD.map V.str))))
  generalize upd H nl (.lst (nmD.map V.str)) = H1 at *
  have nW : ∀ {x : V}, x ∈ nmD.map V.str → ∃ z, x = .str z ∧ isW z = true := fun {x} hx => by
    obtain ⟨z, hz, rfl⟩ := List.mem_map.mp hx
    refine ⟨z, rfl, ?_⟩
    have : nmD.all isW = true := by decide +kernel
    exact List.all_eq_true.mp this z hz
  -- name, other, module
  refine ⟨_, rfl, _, rfl, a, nl, _, n, rfl, sr1, by omega, na, hnl, by decide, by decide, fun H2 x1 f2 sr2 hx1 => ?_⟩
  obtain ⟨z1, rfl, w1⟩ := nW hx1
  have hnl2 := f2 _ _ na hnl
  refine ⟨_, rfl, _, rfl, a, nl, _, n + 1, rfl, sr2, by omega, na, hnl2, by decide, by decide, fun H3 x2 f3 sr3 hx2 => ?_⟩
  obtain ⟨z2, rfl, w2⟩ := nW hx2
  have hnl3 := f3 _ _ na hnl2
  have f13 : Fr (· ≠ a) H1 H3 := f2.trans f3
  have hw3 := f13 _ _ wa (s1 _ _ hw)
  refine ⟨_, rfl, _, rfl, (by show 1 ≤ sizeLine; decide), fun zl nzl => ?_⟩
  have s3 : Same H3 (upd H3 zl (.lst [.str "zz"])) := Same.new nzl
  have hzl : (upd H3 zl (.lst [.str "zz"])) zl = some (.lst [.str "zz"]) := upd_same
  have sr4 := sr3.new nzl (o := .lst [.str "zz"])
  generalize upd H3 zl (.lst [.str "zz"]) = H4 at *
  refine ⟨wl, zl, _, _, rfl, rfl, s3 _ _ hw3, hzl, smallE (by rw [List.length_map]; show _ + 1 ≤ _; omega), fun cl ncl => ?_⟩
  have s4 : Same H4 (upd H4 cl (.lst (ws.map V.str ++ [.str "zz"]))) := Same.new ncl
  have hcl : (upd H4 cl (.lst (ws.map V.str ++ [.str "zz"]))) cl = some (.lst (ws.map V.str ++ [.str "zz"])) := upd_same
  have nca := sr4.nn ncl
  have sr5 := sr4.new ncl (o := .lst (ws.map V.str ++ [.str "zz"]))
  generalize upd H4 cl (.lst (ws.map V.str ++ [.str "zz"])) = H5 at *
  refine ⟨a, cl, _, n + 1 + 1, rfl, sr5, by omega, nca, hcl, by simp, by rw [List.length_append, List.length_map]; show _ + 1 < _; omega, fun H6 x3 f6 sr6 hx3 => ⟨_, _, _, rfl, ?_⟩⟩
  obtain ⟨z3, rfl, w3⟩ : ∃ z, x3 = .str z ∧ isW z = true := by
    rcases List.mem_append.mp hx3 with h | h
    · obtain ⟨z, hz, rfl⟩ := List.mem_map.mp h
      exact ⟨z, rfl, hws z hz⟩
    · rw [List.mem_singleton.mp h]
      exact ⟨_, rfl, by decide +kernel⟩
  have f16 : Fr (· ≠ a) H1 H6 := (f13.trans (Fr.same (Same.trans s3 s4))).trans f6
  have hnl6 := f16 _ _ na hnl
  have f06 : Fr (· ≠ a) H H6 := (Fr.same s1).trans f16
  have oka : ∀ x, H x = none → x ≠ a := fun x h => sr.nn h
  have hf0 : ∀ G, Fr (· ≠ a) H G → ∀ n, Src G a n → ∀ x, G x = none → H x = none := fun G f n s x h => f.free (s.nn h) h
  have p0 : ((((L2.start ["_law_source_here", "_law_words", "_law_names", "_law_name", "_law_other", "_law_module", "_law_some_here", "_law_found"] [V.ref a, V.ref wl]).set 2 (some (V.ref nl))).set 3 (some (V.str z1))).set 4 (some (V.str z2))).set 5 (some (V.str z3)) = [some (.ref a), some (.ref wl), some (.ref nl), some (.str z1), some (.str z2), some (.str z3), none, none] := rfl
  dsimp only
  rw [p0]
  have he : ∀ (x y : Option V), Env (fun x => H x = none) H6 [some (.ref a), some (.ref wl), some (.ref nl), some (.str z1), some (.str z2), some (.str z3), x, y] [(3, .at (.str z1)), (4, .at (.str z2)), (5, .at (.str z3))] := fun x y p hp => by
    simp only [List.mem_cons, List.not_mem_nil, or_false] at hp
    rcases hp with rfl | rfl | rfl
    · exact ⟨_, 0, rfl, thL_at' (small_word w1)⟩
    · exact ⟨_, 0, rfl, thL_at' (small_word w2)⟩
    · exact ⟨_, 0, rfl, thL_at' (small_word w3)⟩
  have e16 : Fr (· ≠ a) H H6 := f06
  have hb : ∀ {x y : Option V} (G : Hp) (n : Int), Fr (· ≠ a) H6 G → Src G a n → (∀ x, G x = none → H x = none) ∧ Env (fun x => H x = none) G [some (.ref a), some (.ref wl), some (.ref nl), some (.str z1), some (.str z2), some (.str z3), x, y] [(3, .at (.str z1)), (4, .at (.str z2)), (5, .at (.str z3))] := fun G n f s => ⟨hf0 G (e16.trans f) n s, (he _ _).to (KeepT.fr (f.mono oka) fun _ k => k)⟩
  have hfb : ∀ (G : Hp) (n : Int), Fr (· ≠ a) H6 G → Src G a n → ∀ x, G x = none → H x = none := fun G n f s => hf0 G (e16.trans f) n s
  have hN : (2 ^ 40 : Int) ≤ 2 ^ 40 := Int.le_refl _
  have nmW : ∀ z ∈ nmD, isW z = true := fun z hz => List.all_eq_true.mp (by decide +kernel : nmD.all isW = true) z hz
  have gd : ∀ {z5 : Str} {j1 j2 : Int} {r : Row}, isW z5 = true → fldOk false (.int j1) = true → fldOk false (.int j2) = true → ∀ {t : Th}, t = toT 2 r → r ∈ rwD z1 z2 z3 z5 j1 j2 → GoodD t := fun h5 i1 i2 t e hr => ⟨_, e, rwD_ok w1 w2 w3 h5 i1 i2 hr⟩
  refine ydl_set (ok := fun x => H x = none) (N := 2 ^ 40) (T := GsD GoodD 3) (m := 6) (d := 1) (Hb := H6) hfb ?_ (gsd_le (by decide)) Fr.refl sr6 (by omega) fun H7 c7 vs7 us7 n7 f7 sr7 a7 b7 ca7 hc7 hv7 g7 => ?_
  · exact gsd_cons oka (yd_yt (.sq [.at (.str "load"), .at (.str z1), .at (.str z3)]) (fun H n f s => by repeat (first | exact yts_nil | apply yts_cons | exact yt_c (by decide +kernel) | exact yt_env (hb H n f s).2 rfl rfl | apply yt_tup (hfb H n f s) | exact rfl | apply yt_lst (hfb H n f s))) (gd (j1 := 0) (j2 := 0) (z5 := z3) (r := .plain "load" [.str z1, .str z3]) w3 rfl rfl rfl (by simp [rwD]))) (gsd_cons oka (yd_yt (.sq [.at (.str "pick"), .at (.str z1), .at (.str z3), .at (.str z2)]) (fun H n f s => by repeat (first | exact yts_nil | apply yts_cons | exact yt_c (by decide +kernel) | exact yt_env (hb H n f s).2 rfl rfl | apply yt_tup (hfb H n f s) | exact rfl | apply yt_lst (hfb H n f s))) (gd (j1 := 0) (j2 := 0) (z5 := z3) (r := .plain "pick" [.str z1, .str z3, .str z2]) w3 rfl rfl rfl (by simp [rwD]))) (gsd_cons oka (yd_tup (m := 5) hfb (yf_t oka (.at (.str "put")) (fun H n f s => by first | exact yt_c (by decide +kernel) | exact yt_env (hb H n f s).2 rfl rfl) (yf_t oka (.at (.str z1)) (fun H n f s => by first | exact yt_c (by decide +kernel) | exact yt_env (hb H n f s).2 rfl rfl) (yf_d oka (yd_draw (i := 0) (mk := 3) rfl hN (by decide) (by decide))))) (fun us h => by
    obtain ⟨_, rfl, _, rfl, _, rfl, j, j0, j1, rfl⟩ := h
    exact ⟨Nat.le_of_ble_eq_true rfl, rfl, gd (j1 := j) (j2 := 0) (z5 := z3) (r := .plain "put" [.str z1, .int j]) w3 (by show (decide (-999 ≤ j) && decide (j ≤ 999)) = true; rw [decide_eq_true (by omega), decide_eq_true (by omega)]; rfl) rfl rfl (by simp [rwD])⟩)) (gsd_nil)))
  refine ydc_set (ok := fun x => H x = none) (N := 2 ^ 40) (T := GsD GoodD 3) (m := 6) (d := 1) (Hb := H6) hfb oka rfl ?_ (gsd_le (by decide)) f7 sr7 (by omega) ca7 hc7 hv7 (by rw [g7.1]; decide) fun H8 c8 vs8 us8 n8 f8 sr8 a8 b8 ca8 hc8 hv8 g8 => ?_
  · exact gsd_cons oka (yd_yt (.sq [.at (.str "copy"), .at (.str z1), .at (.str z2)]) (fun H n f s => by repeat (first | exact yts_nil | apply yts_cons | exact yt_c (by decide +kernel) | exact yt_env (hb H n f s).2 rfl rfl | apply yt_tup (hfb H n f s) | exact rfl | apply yt_lst (hfb H n f s))) (gd (j1 := 0) (j2 := 0) (z5 := z3) (r := .plain "copy" [.str z1, .str z2]) w3 rfl rfl rfl (by simp [rwD]))) (gsd_cons oka (yd_tup (m := 5) hfb (yf_t oka (.at (.str "part")) (fun H n f s => by first | exact yt_c (by decide +kernel) | exact yt_env (hb H n f s).2 rfl rfl) (yf_t oka (.at (.str z1)) (fun H n f s => by first | exact yt_c (by decide +kernel) | exact yt_env (hb H n f s).2 rfl rfl) (yf_t oka (.at (.str z2)) (fun H n f s => by first | exact yt_c (by decide +kernel) | exact yt_env (hb H n f s).2 rfl rfl) (yf_d oka (yd_pick (i := 0) (j := 2) (zs := nmD) rfl rfl na hnl6 (by decide) (by decide) nmW hN))))) (fun us h => by
    obtain ⟨_, rfl, _, rfl, _, rfl, _, rfl, z5, w5, rfl⟩ := h
    exact ⟨Nat.le_of_ble_eq_true rfl, rfl, gd (j1 := 0) (j2 := 0) (z5 := z5) (r := .plain "part" [.str z1, .str z2, .str z5]) w5 rfl rfl rfl (by simp [rwD])⟩)) (gsd_cons oka (yd_yt (.sq [.at (.str "drop"), .at (.str z1)]) (fun H n f s => by repeat (first | exact yts_nil | apply yts_cons | exact yt_c (by decide +kernel) | exact yt_env (hb H n f s).2 rfl rfl | apply yt_tup (hfb H n f s) | exact rfl | apply yt_lst (hfb H n f s))) (gd (j1 := 0) (j2 := 0) (z5 := z3) (r := .plain "drop" [.str z1]) w3 rfl rfl rfl (by simp [rwD]))) (gsd_nil)))
  have l8 : (us7 ++ us8).length = 6 := by rw [List.length_append, g7.1, g8.1]
  refine ydc_set (ok := fun x => H x = none) (N := 2 ^ 40) (T := GsD GoodD 4) (m := 6) (d := 1) (Hb := H6) hfb oka rfl ?_ (gsd_le (by decide)) (f7.trans f8) sr8 (by omega) ca8 hc8 hv8 (by rw [l8]; decide) fun H9 c9 vs9 us9 n9 f9 sr9 a9 b9 ca9 hc9 hv9 g9 => ?_
  · exact gsd_cons oka (yd_tup (m := 5) hfb (yf_t oka (.at (.str "say")) (fun H n f s => by first | exact yt_c (by decide +kernel) | exact yt_env (hb H n f s).2 rfl rfl) (yf_d oka (yd_draw (i := 0) (mk := 9) rfl hN (by decide) (by decide)))) (fun us h => by
    obtain ⟨_, rfl, _, rfl, j, j0, j1, rfl⟩ := h
    exact ⟨Nat.le_of_ble_eq_true rfl, rfl, gd (j1 := 0) (j2 := j) (z5 := z3) (r := .plain "say" [.int j]) w3 rfl (by show (decide (-999 ≤ j) && decide (j ≤ 999)) = true; rw [decide_eq_true (by omega), decide_eq_true (by omega)]; rfl) rfl (by simp [rwD])⟩)) (gsd_cons oka (yd_yt (.sq [.at (.str "tell"), .at (.str z1)]) (fun H n f s => by repeat (first | exact yts_nil | apply yts_cons | exact yt_c (by decide +kernel) | exact yt_env (hb H n f s).2 rfl rfl | apply yt_tup (hfb H n f s) | exact rfl | apply yt_lst (hfb H n f s))) (gd (j1 := 0) (j2 := 0) (z5 := z3) (r := .plain "tell" [.str z1]) w3 rfl rfl rfl (by simp [rwD]))) (gsd_cons oka (yd_yt (.sq [.at (.str "seen"), .at (.str z1), .at (.str z3)]) (fun H n f s => by repeat (first | exact yts_nil | apply yts_cons | exact yt_c (by decide +kernel) | exact yt_env (hb H n f s).2 rfl rfl | apply yt_tup (hfb H n f s) | exact rfl | apply yt_lst (hfb H n f s))) (gd (j1 := 0) (j2 := 0) (z5 := z3) (r := .plain "seen" [.str z1, .str z3]) w3 rfl rfl rfl (by simp [rwD]))) (gsd_cons oka (yd_yt (.sq [.at (.str "call"), .at (.str z1)]) (fun H n f s => by repeat (first | exact yts_nil | apply yts_cons | exact yt_c (by decide +kernel) | exact yt_env (hb H n f s).2 rfl rfl | apply yt_tup (hfb H n f s) | exact rfl | apply yt_lst (hfb H n f s))) (gd (j1 := 0) (j2 := 0) (z5 := z3) (r := .plain "call" [.str z1]) w3 rfl rfl rfl (by simp [rwD]))) (gsd_nil))))
  have l9 : (us7 ++ us8 ++ us9).length = 10 := by rw [List.length_append, l8, g9.1]
  refine ydc_set (ok := fun x => H x = none) (N := 2 ^ 40) (T := GsD GoodD 2) (m := 6) (d := 0) (Hb := H6) hfb oka rfl ?_ (gsd_le (by decide)) ((f7.trans f8).trans f9) sr9 (by omega) ca9 hc9 hv9 (by rw [l9]; decide) fun HA cA vsA usA nA fA srA aA bA caA hcA hvA gA => ?_
  · exact gsd_cons oka (yd_yt (.sq [.at (.str "when"), .at (.str z1), .sq [.sq [.at (.str "tell"), .at (.str z2)]], .sq [.sq [.at (.str "say"), .at (.int 2)]]]) (fun H n f s => by repeat (first | exact yts_nil | apply yts_cons | exact yt_c (by decide +kernel) | exact yt_env (hb H n f s).2 rfl rfl | apply yt_tup (hfb H n f s) | exact rfl | apply yt_lst (hfb H n f s))) (gd (j1 := 0) (j2 := 0) (z5 := z3) (r := .when z1 [.plain "tell" [.str z2]] [.plain "say" [.int 2]]) w3 rfl rfl rfl (by simp [rwD]))) (gsd_cons oka (yd_yt (.sq [.at (.str "fail"), .at (.int 1)]) (fun H n f s => by repeat (first | exact yts_nil | apply yts_cons | exact yt_c (by decide +kernel) | exact yt_env (hb H n f s).2 rfl rfl | apply yt_tup (hfb H n f s) | exact rfl | apply yt_lst (hfb H n f s))) (gd (j1 := 0) (j2 := 0) (z5 := z3) (r := .plain "fail" [.int 1]) w3 rfl rfl rfl (by simp [rwD]))) (gsd_nil))
  have lA : (us7 ++ us8 ++ us9 ++ usA).length = 12 := by rw [List.length_append, l9, gA.1]
  have gall : ∀ u ∈ us7 ++ us8 ++ us9 ++ usA, GoodD u := fun u hu => by
    rcases List.mem_append.mp hu with hu | hu
    · rcases List.mem_append.mp hu with hu | hu
      · rcases List.mem_append.mp hu with hu | hu
        · exact g7.2 u hu
        · exact g8.2 u hu
      · exact g9.2 u hu
    · exact gA.2 u hu
  refine ⟨_, rfl, _, rfl, pick_th (E := E0) srA (by omega) (e16.trans (((f7.trans f8).trans f9).trans fA)) oka caA hcA hvA (by omega) (by intro e; rw [e] at lA; cases lA) fun HB v t fB srB hvt ht => ?_⟩
  obtain ⟨r, rfl, et, o2, o3⟩ := gall t ht
  refine ⟨_, rfl, a, 4, nA + 1, rfl, srB, by omega, by decide, by decide, fun HC d fC srC d0 d1 => ?_⟩
  refine ⟨rfl, _, rfl, ?_⟩
  have fC0 := (e16.trans (((f7.trans f8).trans f9).trans fA))
  have hvt2 : ThL (fun x => H x = none) HC 6 v (toT 2 r) := hvt.to (KeepT.fr (fC.mono oka) fun _ k => k)
  have fHC : Fr (· ≠ a) H HC := fB.trans fC
  generalize V.int d = dd
  by_cases h4 : dd = V.int 0
  · refine (if_pos (decide_eq_true h4)).mpr ?_
    refine ⟨_, rfl, (by show 1 ≤ sizeLine; decide), fun t1 nt1 => ⟨(by show 2 ≤ sizeLine; decide), fun t2 nt2 => ⟨(by show 1 ≤ sizeLine; decide), fun t3 nt3 => ⟨(by show 3 ≤ sizeLine; decide), fun t4 nt4 => ?_⟩⟩⟩⟩
    have c1 : Same HC _ := Same.new nt1 (o := .lst [v])
    have e1 : (upd HC t1 (.lst [v])) t1 = some (.lst [v]) := upd_same
    have src1 := srC.new nt1 (o := .lst [v])
    generalize upd HC t1 (.lst [v]) = HC1 at *
    have c2 : Same HC1 _ := Same.new nt2 (o := .tup [.str "say", .int 4])
    have e2 : (upd HC1 t2 (.tup [.str "say", .int 4])) t2 = some (.tup [.str "say", .int 4]) := upd_same
    have src2 := src1.new nt2 (o := .tup [.str "say", .int 4])
    generalize upd HC1 t2 (.tup [.str "say", .int 4]) = HC2 at *
    have c3 : Same HC2 _ := Same.new nt3 (o := .lst [.ref t2])
    have e3 : (upd HC2 t3 (.lst [.ref t2])) t3 = some (.lst [.ref t2]) := upd_same
    have src3 := src2.new nt3 (o := .lst [.ref t2])
    generalize upd HC2 t3 (.lst [.ref t2]) = HC3 at *
    have c4 : Same HC3 _ := Same.new nt4 (o := .tup [.str "try", .ref t1, .ref t3])
    have e4 : (upd HC3 t4 (.tup [.str "try", .ref t1, .ref t3])) t4 = some (.tup [.str "try", .ref t1, .ref t3]) := upd_same
    have src4 := src3.new nt4 (o := .tup [.str "try", .ref t1, .ref t3])
    generalize upd HC3 t4 (.tup [.str "try", .ref t1, .ref t3]) = HC4 at *
    have s24 := Same.trans c3 c4
    have s14 := Same.trans c2 s24
    have s04 := Same.trans c1 s14
    have k4 : ThL (fun x => H x = none) HC4 8 (.ref t4) (toT 3 (.try_ [r] [.plain "say" [.int 4]])) :=
      ⟨t4, false, _, rfl, fHC.free (srC.nn (Same.free c1 (Same.free c2 (Same.free c3 nt4)))) (Same.free c1 (Same.free c2 (Same.free c3 nt4))), e4, Nat.le_of_ble_eq_true rfl, rfl, .cons (thL_at' (by decide +kernel)) (.cons ⟨t1, true, _, rfl, fHC.free (srC.nn nt1) nt1, s14 _ _ e1, Nat.le_of_ble_eq_true rfl, rfl, .cons (hvt2.to (KeepT.same s04)) .nil⟩ (.cons ⟨t3, true, _, rfl, fHC.free (srC.nn (Same.free c1 (Same.free c2 nt3))) (Same.free c1 (Same.free c2 nt3)), c4 _ _ e3, Nat.le_of_ble_eq_true rfl, rfl, .cons ⟨t2, false, _, rfl, fHC.free (srC.nn (Same.free c1 nt2)) (Same.free c1 nt2), s24 _ _ e2, Nat.le_of_ble_eq_true rfl, rfl, .cons (thL_at' (by decide +kernel)) (.cons (thL_at' (by decide +kernel)) .nil)⟩ .nil⟩ .nil))⟩
    have ok4 : RowOk 3 false (.try_ [r] [.plain "say" [.int 4]]) := ⟨Nat.le_of_ble_eq_true rfl, Nat.le_of_ble_eq_true rfl, fun u hu => by rw [List.mem_singleton.mp hu]; exact o2, fun u hu => by rw [List.mem_singleton.mp hu]; exact ⟨[false], by decide +kernel, .cons (by decide +kernel) .nil, fun h => nomatch h⟩⟩
    exact q HC4 (.ref t4) _ (nA + 1 + 1) (fHC.trans (Fr.same s04)) src4 (by omega) (by omega) (th_row 3 false 8 _ _ ok4 k4.th) ok4
  · refine (if_neg (by rw [decide_eq_false h4]; decide)).mpr ?_
    exact ⟨v, rfl, q HC v r (nA + 1 + 1) fHC srC (by omega) (by omega) (th_row 3 false 6 v r o3 (et ▸ hvt2.th)) o3⟩
end
end Ft
set_option Elab.async false
set_option linter.all false
set_option maxRecDepth 100000
set_option maxHeartbeats 2000000
set_option pp.maxSteps 9000
set_option pp.deepTerms.threshold 12
namespace Ft
open PySem L2
theorem pe_dictZipQK {K : PySem.W.Frag} {X : Cx} {e e2 : Expr} {ta : TA} {p p2 pos pos2 : Pos} (hcalm : X.calm = true) (hg : Gl X "zip") (hm : X.mg "zip" = none) (hg1 : Gl X "dict") (hm1 : X.mg "dict" = none) (ha : PA X [e, e2] ta) (eK : X.K = K)
    (hs : starEach [e, e2] X.env = (false, eval e X.env) :: starEach [e2] X.env := by rfl) (hpl : (backTo pos2 (starEach [e2] X.env)).any (·.1) = false := by rfl)
    (hs1 : starEach [.Call (.Name "zip" p2) [e, e2] [] pos2] X.env = (false, eval (.Call (.Name "zip" p2) [e, e2] [] pos2) X.env) :: starEach [] X.env := by rfl) (hpl1 : (backTo pos (starEach [] X.env)).any (·.1) = false := by rfl) :
    PE X (.Call (.Name "dict" p) [.Call (.Name "zip" p2) [e, e2] [] pos2] [] pos) (tDZQ K ta) := by
  subst eK
  exact pe_dictZipQ hcalm hg hm hg1 hm1 ha hs hpl hs1 hpl1
section
variable {P : PySem.Program} {w : World} {K : PySem.W.Frag} {mg : Str → Option Value} {base : Heap}
def plR (p q r : Str) : List (List (List Row)) := [
  [[(.plain "load" [.str "x", .str q]), (.plain "put" [.str "y", .int 2])], [(.plain "say" [.int 5])], []],
  [[(.plain "load" [.str "x", .str q]), (.plain "load" [.str "y", .str r]), (.plain "copy" [.str "z", .str "x"]), (.plain "copy" [.str "z", .str "y"])], [(.plain "say" [.int 7])], [(.plain "say" [.int 5])]],
  [[(.plain "load" [.str "x", .str q]), (.plain "load" [.str "y", .str r]), (.plain "copy" [.str "z", .str "x"])], [(.plain "say" [.int 7])], [(.plain "say" [.int 5])]],
  [[(.plain "pick" [.str "x", .str q, .str "y"]), (.plain "put" [.str "z", .int 1])], [(.plain "pick" [.str "x", .str p, .str "z"]), (.plain "put" [.str "y", .int 2])], []],
  [[(.make "f" [(.plain "load" [.str "x", .str q]), (.plain "tell" [.str "x"])]), (.plain "call" [.str "f"]), (.plain "call" [.str "f"])], [(.plain "say" [.int 7])], []],
  [[(.plain "pick" [.str "x", .str q, .str "y"])], [(.plain "load" [.str "z", .str p]), (.try_ [(.plain "part" [.str "x", .str "z", .str "x"])] [(.plain "say" [.int 7])]), (.plain "put" [.str "y", .int 2])], []],
  [[(.make "f" [(.try_ [(.plain "load" [.str "x", .str q])] [(.plain "say" [.int 5])])])], [(.plain "seen" [.str "y", .str r]), (.when "y" [] [(.plain "fail" [.int 4])]), (.plain "put" [.str "z", .int 2])], [(.plain "say" [.int 7])]],
  [[(.plain "pick" [.str "x", .str q, .str "y"]), (.make "f" [(.plain "put" [.str "x", .int 9])])], [(.plain "load" [.str "z", .str p]), (.plain "part" [.str "x", .str "z", .str "f"]), (.plain "call" [.str "x"]), (.plain "put" [.str "y", .int 2])], []],
  [[(.plain "load" [.str "x", .str q]), (.plain "drop" [.str "x"])], [(.plain "say" [.int 5])], []],
  [[(.plain "load" [.str "x", .str q]), (.plain "seen" [.str "y", .str q]), (.plain "tell" [.str "y"])], [], []],
  [[(.try_ [(.plain "load" [.str "x", .str "zz"])] [(.plain "say" [.int 7])]), (.plain "put" [.str "y", .int 0])], [], []],
  [[(.plain "pick" [.str "x", .str q, .str "y"]), (.when "x" [(.plain "say" [.int 7])] [(.plain "say" [.int 5])])], [(.plain "put" [.str "y", .int 0]), (.plain "say" [.int 7])], []],
  [[(.plain "pick" [.str "x", .str q, .str "y"])], [(.plain "pick" [.str "y", .str r, .str "z"])], [(.plain "put" [.str "z", .int 3]), (.plain "say" [.int 7])]],
  [[(.plain "pick" [.str "x", .str q, .str "y"])], [(.plain "pick" [.str "y", .str p, .str "x"])], []],
  [[(.plain "load" [.str "x", .str q]), (.try_ [(.plain "tell" [.str "x"])] [(.plain "say" [.int 5])])], [(.plain "say" [.int 7]), (.plain "fail" [.int 2])], []],
  [[(.plain "load" [.str "x", .str q]), (.make "f" [(.plain "tell" [.str "x"]), (.plain "put" [.str "x", .int 2])])], [(.plain "say" [.int 7]), (.plain "put" [.str "y", .int 2])], []]]
def plT (p q r : Str) : List Th := (plR p q r).map fun pl => .sq (pl.map fun rs => .sq (rs.map (toT 3)))
def PlantAt (ok : Addr → Prop) (H : Hp) (p q r : Str) (x : V) (pl : List (List Row)) : Prop := ∃ D l1 l2 l3 r1 r2 r3, x = .ref D ∧ ok D ∧ H D = some (.dK [((Sum.inr p : Key), l1), (Sum.inr q, l2), (Sum.inr r, l3)]) ∧ pl = [r1, r2, r3] ∧ ThL ok H 6 l1 (.sq (r1.map (toT 3))) ∧ ThL ok H 6 l2 (.sq (r2.map (toT 3))) ∧ ThL ok H 6 l3 (.sq (r3.map (toT 3)))
theorem plR_3 {p q r : Str} {pl : List (List Row)} (h : pl ∈ plR p q r) : ∃ r1 r2 r3, pl = [r1, r2, r3] := by
  simp only [plR, List.mem_cons, List.not_mem_nil, or_false] at h
  rcases h with rfl | rfl | rfl | rfl | rfl | rfl | rfl | rfl | rfl | rfl | rfl | rfl | rfl | rfl | rfl | rfl <;> exact ⟨_, _, _, rfl⟩
theorem PlantAt.to {ok ok' : Addr → Prop} {H H' : Hp} {p q r : Str} {x : V} {pl : List (List Row)} (h : PlantAt ok H p q r x pl) (k : KeepT ok ok' H H') : PlantAt ok' H' p q r x pl := by
  obtain ⟨D, l1, l2, l3, r1, r2, r3, e, o, hD, ep, h1, h2, h3⟩ := h
  have hk := k D (.dK [(Sum.inr p, l1), (Sum.inr q, l2), (Sum.inr r, l3)]) o (fun _ z => nomatch z) hD
  exact ⟨D, l1, l2, l3, r1, r2, r3, e, hk.1, hk.2, ep, h1.to k, h2.to k, h3.to k⟩
abbrev sLPlants : Stmt := topS 46
theorem scLPlants : FnScope ["_law_p", "_law_q", "_law_r", "_law_load", "_law_pick_here", "_law_tell", "_law_say", "_law_five", "_law_both", "_law_put", "_law_found", "_law_failing", "_law_called", "_law_rows"] ["_law_p", "_law_q", "_law_r"] (defScope sLPlants) := ⟨rfl, rfl, rfl, by decide +kernel, rfl, by decide +kernel, by decide +kernel⟩
def spLPlants : Sp := fun vs H Q _ => ∃ (p q r : Str), vs = [.str p, .str q, .str r] ∧ p ≠ q ∧ p ≠ r ∧ q ≠ r ∧ p.length ≤ 8 ∧ q.length ≤ 8 ∧ r.length ≤ 8 ∧
  ∀ H' l xs, Same H H' → H l = none → H' l = some (.lst xs) → Paired (PlantAt (fun y => H y = none) H' p q r) xs (plR p q r) → Q (.ref l) H'
theorem ok_LPlants {f : Addr} {fd : FuncData} {k : Nat} (F : Fun K "_law_plants" "_law_plants" sLPlants f fd) (B : Bl mg) : FnOk P w K mg base CX0 (k + 1) f fd ["_law_p", "_law_q", "_law_r"] spLPlants := by
  refine F.ok scLPlants (fun vs H Q E h => ?_) (fun cdv A outer s H vs Q E hr h => ?_)
  · obtain ⟨p, q, r, rfl, _⟩ := h
    rfl
  obtain ⟨p, q, r, rfl, pq, pr, qr, lp, lq, lr, qq⟩ := h
  refine ⟨_, (pss_cons (ps_asg (pe_tup (pa_cons (pe_tup (pa_cons pe_str (pa_cons pe_str (pa_cons (pv 1) pa_nil)))) (pa_cons (pe_tup (pa_cons pe_str (pa_cons pe_str (pa_cons (pv 1) (pa_cons pe_str pa_nil))))) (pa_cons (pe_tup (pa_cons pe_str (pa_cons pe_str pa_nil))) (pa_cons (pe_tup (pa_cons pe_str (pa_cons pe_int pa_nil))) (pa_cons (pe_tup (pa_cons pe_str (pa_cons pe_int pa_nil))) pa_nil)))))) (pg_tup (by rfl) (pgs_cons (pg_name (i := 3) scLPlants.nd rfl (by first | exact Or.inl rfl | exact Or.inr rfl)) (pgs_cons (pg_name (i := 4) scLPlants.nd rfl (by first | exact Or.inl rfl | exact Or.inr rfl)) (pgs_cons (pg_name (i := 5) scLPlants.nd rfl (by first | exact Or.inl rfl | exact Or.inr rfl)) (pgs_cons (pg_name (i := 6) scLPlants.nd rfl (by first | exact Or.inl rfl | exact Or.inr rfl)) (pgs_cons (pg_name (i := 7) scLPlants.nd rfl (by first | exact Or.inl rfl | exact Or.inr rfl)) pgs_nil)))))))
      (pss_cons (ps_par (i := 8) (j := 9) (by rfl) scLPlants.nd rfl rfl (by decide) rfl rfl (pa_cons (pe_lst (pa_cons (pv 3) (pa_cons (pe_tup (pa_cons pe_str (pa_cons pe_str (pa_cons (pv 2) pa_nil)))) (pa_cons (pe_tup (pa_cons pe_str (pa_cons pe_str (pa_cons pe_str pa_nil)))) pa_nil)))) (pa_cons (pe_tup (pa_cons pe_str (pa_cons pe_str (pa_cons pe_int pa_nil)))) pa_nil)) (by rfl))
      (pss_cons (ps_set (i := 10) scLPlants.nd rfl (by first | exact Or.inl rfl | exact Or.inr rfl) (pe_lst (pa_cons (pe_tup (pa_cons (pe_lst (pa_cons (pv 3) (pa_cons (pv 9) pa_nil))) (pa_cons (pe_lst (pa_cons (pv 7) pa_nil)) (pa_cons (pe_lst pa_nil) pa_nil)))) (pa_cons (pe_tup (pa_cons (pe_op op_cat (pv 8) (pe_lst (pa_cons (pe_tup (pa_cons pe_str (pa_cons pe_str (pa_cons pe_str pa_nil)))) pa_nil))) (pa_cons (pe_lst (pa_cons (pv 6) pa_nil)) (pa_cons (pe_lst (pa_cons (pv 7) pa_nil)) pa_nil)))) (pa_cons (pe_tup (pa_cons (pv 8) (pa_cons (pe_lst (pa_cons (pv 6) pa_nil)) (pa_cons (pe_lst (pa_cons (pv 7) pa_nil)) pa_nil)))) pa_nil)))))
      (pss_cons (ps_expr (pe_bm PySem.F.plainAttrs_list PySem.F.slot_list_append PySem.F.type_list_append mt_append (pv 10) (pa_cons (pe_tup (pa_cons (pe_lst (pa_cons (pv 4) (pa_cons (pe_tup (pa_cons pe_str (pa_cons pe_str (pa_cons pe_int pa_nil)))) pa_nil))) (pa_cons (pe_lst (pa_cons (pe_tup (pa_cons pe_str (pa_cons pe_str (pa_cons (pv 0) (pa_cons pe_str pa_nil))))) (pa_cons (pv 9) pa_nil))) (pa_cons (pe_lst pa_nil) pa_nil)))) pa_nil)))
      (pss_cons (ps_expr (pe_bm PySem.F.plainAttrs_list PySem.F.slot_list_append PySem.F.type_list_append mt_append (pv 10) (pa_cons (pe_tup (pa_cons (pe_lst (pa_cons (pe_tup (pa_cons pe_str (pa_cons pe_str (pa_cons (pe_lst (pa_cons (pv 3) (pa_cons (pv 5) pa_nil))) pa_nil)))) (pa_cons (pe_tup (pa_cons pe_str (pa_cons pe_str pa_nil))) (pa_cons (pe_tup (pa_cons pe_str (pa_cons pe_str pa_nil))) pa_nil)))) (pa_cons (pe_lst (pa_cons (pv 6) pa_nil)) (pa_cons (pe_lst pa_nil) pa_nil)))) pa_nil)))
      (pss_cons (ps_expr (pe_bm PySem.F.plainAttrs_list PySem.F.slot_list_append PySem.F.type_list_append mt_append (pv 10) (pa_cons (pe_tup (pa_cons (pe_lst (pa_cons (pv 4) pa_nil)) (pa_cons (pe_lst (pa_cons (pe_tup (pa_cons pe_str (pa_cons pe_str (pa_cons (pv 0) pa_nil)))) (pa_cons (pe_tup (pa_cons pe_str (pa_cons (pe_lst (pa_cons (pe_tup (pa_cons pe_str (pa_cons pe_str (pa_cons pe_str (pa_cons pe_str pa_nil))))) pa_nil)) (pa_cons (pe_lst (pa_cons (pv 6) pa_nil)) pa_nil)))) (pa_cons (pv 9) pa_nil)))) (pa_cons (pe_lst pa_nil) pa_nil)))) pa_nil)))
      (pss_cons (ps_set (i := 11) scLPlants.nd rfl (by first | exact Or.inl rfl | exact Or.inr rfl) (pe_lst (pa_cons (pe_tup (pa_cons pe_str (pa_cons pe_str (pa_cons (pv 2) pa_nil)))) (pa_cons (pe_tup (pa_cons pe_str (pa_cons pe_str (pa_cons (pe_lst pa_nil) (pa_cons (pe_lst (pa_cons (pe_tup (pa_cons pe_str (pa_cons pe_int pa_nil))) pa_nil)) pa_nil))))) (pa_cons (pe_tup (pa_cons pe_str (pa_cons pe_str (pa_cons pe_int pa_nil)))) pa_nil)))))
      (pss_cons (ps_expr (pe_bm PySem.F.plainAttrs_list PySem.F.slot_list_append PySem.F.type_list_append mt_append (pv 10) (pa_cons (pe_tup (pa_cons (pe_lst (pa_cons (pe_tup (pa_cons pe_str (pa_cons pe_str (pa_cons (pe_lst (pa_cons (pe_tup (pa_cons pe_str (pa_cons (pe_lst (pa_cons (pv 3) pa_nil)) (pa_cons (pe_lst (pa_cons (pv 7) pa_nil)) pa_nil)))) pa_nil)) pa_nil)))) pa_nil)) (pa_cons (pv 11) (pa_cons (pe_lst (pa_cons (pv 6) pa_nil)) pa_nil)))) pa_nil)))
      (pss_cons (ps_set (i := 12) scLPlants.nd rfl (by first | exact Or.inl rfl | exact Or.inr rfl) (pe_lst (pa_cons (pe_tup (pa_cons pe_str (pa_cons pe_str (pa_cons (pv 0) pa_nil)))) (pa_cons (pe_tup (pa_cons pe_str (pa_cons pe_str (pa_cons pe_str (pa_cons pe_str pa_nil))))) (pa_cons (pe_tup (pa_cons pe_str (pa_cons pe_str pa_nil))) (pa_cons (pv 9) pa_nil))))))
      (pss_cons (ps_expr (pe_bm PySem.F.plainAttrs_list PySem.F.slot_list_append PySem.F.type_list_append mt_append (pv 10) (pa_cons (pe_tup (pa_cons (pe_lst (pa_cons (pv 4) (pa_cons (pe_tup (pa_cons pe_str (pa_cons pe_str (pa_cons (pe_lst (pa_cons (pe_tup (pa_cons pe_str (pa_cons pe_str (pa_cons pe_int pa_nil)))) pa_nil)) pa_nil)))) pa_nil))) (pa_cons (pv 12) (pa_cons (pe_lst pa_nil) pa_nil)))) pa_nil)))
      (pss_cons (ps_set (i := 10) scLPlants.nd rfl (by first | exact Or.inl rfl | exact Or.inr rfl) (pe_op op_cat (pv 10) (pe_lst (pa_cons (pe_tup (pa_cons (pe_lst (pa_cons (pv 3) (pa_cons (pe_tup (pa_cons pe_str (pa_cons pe_str pa_nil))) pa_nil))) (pa_cons (pe_lst (pa_cons (pv 7) pa_nil)) (pa_cons (pe_lst pa_nil) pa_nil)))) (pa_cons (pe_tup (pa_cons (pe_lst (pa_cons (pv 3) (pa_cons (pe_tup (pa_cons pe_str (pa_cons pe_str (pa_cons (pv 1) pa_nil)))) (pa_cons (pe_tup (pa_cons pe_str (pa_cons pe_str pa_nil))) pa_nil)))) (pa_cons (pe_lst pa_nil) (pa_cons (pe_lst pa_nil) pa_nil)))) pa_nil)))))
      (pss_cons (ps_expr (pe_bm PySem.F.plainAttrs_list PySem.F.slot_list_append PySem.F.type_list_append mt_append (pv 10) (pa_cons (pe_tup (pa_cons (pe_lst (pa_cons (pe_tup (pa_cons pe_str (pa_cons (pe_lst (pa_cons (pe_tup (pa_cons pe_str (pa_cons pe_str (pa_cons pe_str pa_nil)))) pa_nil)) (pa_cons (pe_lst (pa_cons (pv 6) pa_nil)) pa_nil)))) (pa_cons (pe_tup (pa_cons pe_str (pa_cons pe_str (pa_cons pe_int pa_nil)))) pa_nil))) (pa_cons (pe_lst pa_nil) (pa_cons (pe_lst pa_nil) pa_nil)))) pa_nil)))
      (pss_cons (ps_expr (pe_bm PySem.F.plainAttrs_list PySem.F.slot_list_append PySem.F.type_list_append mt_append (pv 10) (pa_cons (pe_tup (pa_cons (pe_lst (pa_cons (pv 4) (pa_cons (pe_tup (pa_cons pe_str (pa_cons pe_str (pa_cons (pe_lst (pa_cons (pv 6) pa_nil)) (pa_cons (pe_lst (pa_cons (pv 7) pa_nil)) pa_nil))))) pa_nil))) (pa_cons (pe_lst (pa_cons (pe_tup (pa_cons pe_str (pa_cons pe_str (pa_cons pe_int pa_nil)))) (pa_cons (pv 6) pa_nil))) (pa_cons (pe_lst pa_nil) pa_nil)))) pa_nil)))
      (pss_cons (ps_expr (pe_bm PySem.F.plainAttrs_list PySem.F.slot_list_append PySem.F.type_list_append mt_append (pv 10) (pa_cons (pe_tup (pa_cons (pe_lst (pa_cons (pv 4) pa_nil)) (pa_cons (pe_lst (pa_cons (pe_tup (pa_cons pe_str (pa_cons pe_str (pa_cons (pv 2) (pa_cons pe_str pa_nil))))) pa_nil)) (pa_cons (pe_lst (pa_cons (pe_tup (pa_cons pe_str (pa_cons pe_str (pa_cons pe_int pa_nil)))) (pa_cons (pv 6) pa_nil))) pa_nil)))) pa_nil)))
      (pss_cons (ps_expr (pe_bm PySem.F.plainAttrs_list PySem.F.slot_list_append PySem.F.type_list_append mt_append (pv 10) (pa_cons (pe_tup (pa_cons (pe_lst (pa_cons (pv 4) pa_nil)) (pa_cons (pe_lst (pa_cons (pe_tup (pa_cons pe_str (pa_cons pe_str (pa_cons (pv 0) (pa_cons pe_str pa_nil))))) pa_nil)) (pa_cons (pe_lst pa_nil) pa_nil)))) pa_nil)))
      (pss_cons (ps_expr (pe_bm PySem.F.plainAttrs_list PySem.F.slot_list_append PySem.F.type_list_append mt_append (pv 10) (pa_cons (pe_tup (pa_cons (pe_lst (pa_cons (pv 3) (pa_cons (pe_tup (pa_cons pe_str (pa_cons (pe_lst (pa_cons (pv 5) pa_nil)) (pa_cons (pe_lst (pa_cons (pv 7) pa_nil)) pa_nil)))) pa_nil))) (pa_cons (pe_lst (pa_cons (pv 6) (pa_cons (pe_tup (pa_cons pe_str (pa_cons pe_int pa_nil))) pa_nil))) (pa_cons (pe_lst pa_nil) pa_nil)))) pa_nil)))
      (pss_cons (ps_expr (pe_bm PySem.F.plainAttrs_list PySem.F.slot_list_append PySem.F.type_list_append mt_append (pv 10) (pa_cons (pe_tup (pa_cons (pe_lst (pa_cons (pv 3) (pa_cons (pe_tup (pa_cons pe_str (pa_cons pe_str (pa_cons (pe_lst (pa_cons (pv 5) (pa_cons (pe_tup (pa_cons pe_str (pa_cons pe_str (pa_cons pe_int pa_nil)))) pa_nil))) pa_nil)))) pa_nil))) (pa_cons (pe_lst (pa_cons (pv 6) (pa_cons (pv 9) pa_nil))) (pa_cons (pe_lst pa_nil) pa_nil)))) pa_nil)))
      (pss_one (ps_ret (pe_lc (own := [("_law_rows", 13)]) (g := (gName 13)) (tt := tYes) (by rfl) scLPlants.nd (pi_list (pv 10)) (blkOk_by (own := [("_law_rows", 13)]) (N := ["_law_p", "_law_q", "_law_r", "_law_load", "_law_pick_here", "_law_tell", "_law_say", "_law_five", "_law_both", "_law_put", "_law_found", "_law_failing", "_law_called", "_law_rows"]) (sc := defScope sLPlants) (by decide +kernel)) (fun _ _ _ _ _ => (pg_name (i := 13) scLPlants.nd rfl (by first | exact Or.inl rfl | exact Or.inr rfl))) (fun _ _ _ _ _ => pts_nil) (fun _ _ _ _ _ => (pe_dictZipQK (K := K) rfl (by rfl) B.zip (by rfl) B.dict (pa_cons (pe_lst (pa_cons (pv 0) (pa_cons (pv 1) (pa_cons (pv 2) pa_nil)))) (pa_cons (pv 13) pa_nil)) rfl)))))))))))))))))))))), ?_⟩
  refine (?_ : tSeq _ _ _ _ _)
  have hf : ∀ x, H x = none → H x = none := fun _ h => h
  have he : Env (fun x => H x = none) H (L2.start ["_law_p", "_law_q", "_law_r", "_law_load", "_law_pick_here", "_law_tell", "_law_say", "_law_five", "_law_both", "_law_put", "_law_found", "_law_failing", "_law_called", "_law_rows"] [V.str p, V.str q, V.str r]) [(0, .at (.str p)), (1, .at (.str q)), (2, .at (.str r))] := fun x hx => by
    have sm : ∀ {z : Str}, z.length ≤ 8 → smallT (.str z) = true := fun {z} h => by
      show (true && decide (z.length ≤ 1000)) = true
      rw [decide_eq_true (by omega)]; rfl
    simp only [List.mem_cons, List.not_mem_nil, or_false] at hx
    rcases hx with rfl | rfl | rfl
    · exact ⟨_, 0, rfl, thL_at' (sm lp)⟩
    · exact ⟨_, 0, rfl, thL_at' (sm lq)⟩
    · exact ⟨_, 0, rfl, thL_at' (sm lr)⟩
  apply tup_env (m := 6) (is := [3, 4, 5, 6, 7]) (ok := fun x => H x = none)
  case hg => repeat (first | exact yts_nil | apply yts_cons | exact yt_c (by decide +kernel) | exact yt_env he rfl rfl | apply yt_tup hf | exact rfl | apply yt_lst hf)
  case hn => rfl
  case hi => rfl
  case hlt =>
    intro i hi
    show i < 14
    simp only [List.mem_cons, List.not_mem_nil, or_false] at hi
    omega
  case hnd => decide
  intro H1 σ1 s1 ls1 os1 e1
  replace he := e1.app ((he.to (KeepT.same s1)).keep os1 rfl)
  replace hf : ∀ x, H1 x = none → H x = none := fun x h => Same.free s1 h
  apply par_lt (m := 5) (ok := fun x => H x = none) hf
  case hg => repeat (first | exact yts_nil | apply yts_cons | exact yt_c (by decide +kernel) | exact yt_env he rfl rfl | apply yt_tup hf | exact rfl | apply yt_lst hf)
  case ht => repeat (first | exact yts_nil | apply yts_cons | exact yt_c (by decide +kernel) | exact yt_env he rfl rfl | apply yt_tup hf | exact rfl | apply yt_lst hf)
  intro H2 cb vb vput s2 okb hcb hvb hvput
  have ls1' : σ1.length = 14 := ls1
  have hbT : ThL (fun x => H x = none) H2 6 (.ref cb) (.sq _) := ⟨cb, true, vb, rfl, okb, hcb, Nat.le_of_ble_eq_true rfl, rfl, hvb⟩
  replace he := ((he.to (KeepT.same s2)).add (i := 8) (m := 6) rfl (by rw [ls1']; decide) hbT).add (i := 9) (m := 5) rfl (by rw [List.length_set, ls1']; decide) hvput
  have hB : ∃ c vs, ((σ1.set 8 (some (V.ref cb))).set 9 (some vput))[8]? = some (some (.ref c)) ∧ H2 c = some (.lst vs) ∧ Paired (ThL (fun x => H x = none) H2 5) vs _ := ⟨cb, vb, by rw [List.getElem?_set_ne (by decide), List.getElem?_set_self (by rw [ls1']; decide)], hcb, hvb⟩
  have s12 := Same.trans s1 s2
  replace hf : ∀ x, H2 x = none → H x = none := fun x h => Same.free s12 h
  have ls2 : ((σ1.set 8 (some (V.ref cb))).set 9 (some vput)).length = 14 := by rw [List.length_set, List.length_set, ls1']
  generalize (σ1.set 8 (some (V.ref cb))).set 9 (some vput) = σ2 at *
  apply pl_found s12 he ls2 rfl
  case h => repeat (first | exact yts_nil | apply yts_cons | exact yt_c (by decide +kernel) | exact yt_env he rfl rfl | apply yt_cat hf hB (Nat.le_of_ble_eq_true rfl) | apply yt_tup hf | exact rfl | apply yt_lst hf)
  case hi => rfl
  intro H3 c3 S
  apply plp_app S (Nat.le_of_ble_eq_true rfl)
  case h =>
    have hf := S.hf
    have he := S.e
    repeat (first | exact yts_nil | apply yts_cons | exact yt_c (by decide +kernel) | exact yt_env he rfl rfl | apply yt_tup hf | exact rfl | apply yt_lst hf)
  clear S
  intro G S
  apply plp_app S (Nat.le_of_ble_eq_true rfl)
  case h =>
    have hf := S.hf
    have he := S.e
    repeat (first | exact yts_nil | apply yts_cons | exact yt_c (by decide +kernel) | exact yt_env he rfl rfl | apply yt_tup hf | exact rfl | apply yt_lst hf)
  clear S
  intro G S
  apply plp_app S (Nat.le_of_ble_eq_true rfl)
  case h =>
    have hf := S.hf
    have he := S.e
    repeat (first | exact yts_nil | apply yts_cons | exact yt_c (by decide +kernel) | exact yt_env he rfl rfl | apply yt_tup hf | exact rfl | apply yt_lst hf)
  clear S
  intro G S
  apply plp_set (m := 5) S
  case h =>
    have hf := S.hf
    have he := S.e
    repeat (first | exact yts_nil | apply yts_cons | exact yt_c (by decide +kernel) | exact yt_env he rfl rfl | apply yt_tup hf | exact rfl | apply yt_lst hf)
  case hi => rfl
  case hn => rfl
  case hlt => rfl
  clear S
  intro G v S
  apply plp_app S (Nat.le_of_ble_eq_true rfl)
  case h =>
    have hf := S.hf
    have he := S.e
    repeat (first | exact yts_nil | apply yts_cons | exact yt_c (by decide +kernel) | exact yt_env he rfl rfl | apply yt_tup hf | exact rfl | apply yt_lst hf)
  clear S
  intro G S
  apply plp_set (m := 5) S
  case h =>
    have hf := S.hf
    have he := S.e
    repeat (first | exact yts_nil | apply yts_cons | exact yt_c (by decide +kernel) | exact yt_env he rfl rfl | apply yt_tup hf | exact rfl | apply yt_lst hf)
  case hi => rfl
  case hn => rfl
  case hlt => rfl
  clear S
  intro G v S
  apply plp_app S (Nat.le_of_ble_eq_true rfl)
  case h =>
    have hf := S.hf
    have he := S.e
    repeat (first | exact yts_nil | apply yts_cons | exact yt_c (by decide +kernel) | exact yt_env he rfl rfl | apply yt_tup hf | exact rfl | apply yt_lst hf)
  clear S
  intro G S
  apply plp_cat S (Nat.le_of_ble_eq_true rfl)
  case h =>
    have hf := S.hf
    have he := S.e
    repeat (first | exact yts_nil | apply yts_cons | exact yt_c (by decide +kernel) | exact yt_env he rfl rfl | apply yt_tup hf | exact rfl | apply yt_lst hf)
  case hi => rfl
  clear S
  intro G c3 S
  apply plp_app S (Nat.le_of_ble_eq_true rfl)
  case h =>
    have hf := S.hf
    have he := S.e
    repeat (first | exact yts_nil | apply yts_cons | exact yt_c (by decide +kernel) | exact yt_env he rfl rfl | apply yt_tup hf | exact rfl | apply yt_lst hf)
  clear S
  intro G S
  apply plp_app S (Nat.le_of_ble_eq_true rfl)
  case h =>
    have hf := S.hf
    have he := S.e
    repeat (first | exact yts_nil | apply yts_cons | exact yt_c (by decide +kernel) | exact yt_env he rfl rfl | apply yt_tup hf | exact rfl | apply yt_lst hf)
  clear S
  intro G S
  apply plp_app S (Nat.le_of_ble_eq_true rfl)
  case h =>
    have hf := S.hf
    have he := S.e
    repeat (first | exact yts_nil | apply yts_cons | exact yt_c (by decide +kernel) | exact yt_env he rfl rfl | apply yt_tup hf | exact rfl | apply yt_lst hf)
  clear S
  intro G S
  apply plp_app S (Nat.le_of_ble_eq_true rfl)
  case h =>
    have hf := S.hf
    have he := S.e
    repeat (first | exact yts_nil | apply yts_cons | exact yt_c (by decide +kernel) | exact yt_env he rfl rfl | apply yt_tup hf | exact rfl | apply yt_lst hf)
  clear S
  intro G S
  apply plp_app S (Nat.le_of_ble_eq_true rfl)
  case h =>
    have hf := S.hf
    have he := S.e
    repeat (first | exact yts_nil | apply yts_cons | exact yt_c (by decide +kernel) | exact yt_env he rfl rfl | apply yt_tup hf | exact rfl | apply yt_lst hf)
  clear S
  intro G S
  apply plp_app S (Nat.le_of_ble_eq_true rfl)
  case h =>
    have hf := S.hf
    have he := S.e
    repeat (first | exact yts_nil | apply yts_cons | exact yt_c (by decide +kernel) | exact yt_env he rfl rfl | apply yt_tup hf | exact rfl | apply yt_lst hf)
  clear S
  intro G S
  obtain ⟨vs, hc, hvs0⟩ := S.v
  have hvs : Paired (ThL (okc H c3) G 7) vs (plT p q r) := hvs0
  clear hvs0
  have v0 : ∀ i z, (i, Th.at (.str z)) ∈ [(0, Th.at (.str p)), (1, .at (.str q)), (2, .at (.str r))] → _ := fun i z hm => S.e (i, .at (.str z)) (by simp only [List.mem_cons, List.not_mem_nil, or_false] at hm; rcases hm with e | e | e <;> (rw [e]; simp))
  have hp0 : _ := v0 0 p (by simp)
  have hq0 : _ := v0 1 q (by simp)
  have hr0 : _ := v0 2 r (by simp)
  clear v0
  have S2 : Same H G := S.s
  have nc := S.nc
  have ln := S.len
  have ll := S.l
  clear S
  generalize ((((σ2.set 10 _).set 11 _).set 12 _).set 10 _) = σ3 at *
  obtain ⟨w0, m0, g0, t0⟩ := hp0
  obtain ⟨w1, m1, g1, t1⟩ := hq0
  obtain ⟨w2, m2, g2, t2⟩ := hr0
  obtain rfl : w0 = .str p := (thL_at t0).1
  obtain rfl : w1 = .str q := (thL_at t1).1
  obtain rfl : w2 = .str r := (thL_at t2).1
  refine ⟨_, ll, c3, rfl, ⟨_, SqL.of hc⟩, fun L nL => ?_⟩
  have nLH : H L = none := Same.free S2 nL
  refine lc_it walk_list (fun i H' => Same G H' ∧ ∃ Ds, H' L = some (.lst Ds) ∧ Paired (PlantAt (fun y => H y = none ∧ y ≠ L) H' p q r) Ds ((plR p q r).take i))
    ⟨Same.new nL, [], upd_same, .nil⟩ (fun i H' _ ⟨sm, _⟩ => SqL.of (sm _ _ hc)) ?_ ?_
  · rintro i x K1 K2 hi ⟨sm, Ds, hL, hDs⟩ ⟨rfl, hx⟩
    obtain ⟨t, ht, hxt⟩ := paired_get hvs hx
    obtain ⟨pl, hpl, et⟩ : ∃ pl, (plR p q r)[i]? = some pl ∧ t = .sq (pl.map fun rs => .sq (rs.map (toT 3))) := by
      unfold plT at ht
      rw [List.getElem?_map] at ht
      obtain ⟨pl, h1, h2⟩ := Option.map_eq_some_iff.mp ht
      exact ⟨pl, h1, h2.symm⟩
    obtain ⟨r1, r2, r3, rfl⟩ := plR_3 (List.mem_of_getElem? hpl)
    subst et
    obtain ⟨m', b, kb, ys, em, rfl, okb, hb, _, _, hys⟩ := thL_sq hxt
    have em' : m' = 6 := by omega
    subst em'
    obtain ⟨l1, l2, l3, rfl, y1, y2, y3⟩ : ∃ l1 l2 l3, ys = [l1, l2, l3] ∧ ThL (okc H c3) G 6 l1 (.sq (r1.map (toT 3))) ∧ ThL (okc H c3) G 6 l2 (.sq (r2.map (toT 3))) ∧ ThL (okc H c3) G 6 l3 (.sq (r3.map (toT 3))) := by
      cases hys with
      | cons a1 t1 =>
        cases t1 with
        | cons a2 t2 =>
          cases t2 with
          | cons a3 t3 =>
            cases t3
            exact ⟨_, _, _, rfl, a1, a2, a3⟩
    have oth : ∀ {j : Nat} {v : V}, j ≠ 13 → σ3[j]? = some (some v) → ((wipe σ3 [13]).set 13 (some (V.ref b)))[j]? = some (some v) := fun {j v} n e => by
      rw [List.getElem?_set_ne n.symm]
      show (σ3.set 13 none)[j]? = _
      rw [List.getElem?_set_ne n.symm]; exact e
    have own : ((wipe σ3 [13]).set 13 (some (V.ref b)))[13]? = some (some (.ref b)) := by
      rw [List.getElem?_set_self]
      rw [wipe_length, ln]; decide
    refine ⟨?_, _, oth (by decide) g0, _, oth (by decide) g1, _, oth (by decide) g2, (by show 3 ≤ sizeLine; decide), fun p0 np0 => ⟨_, own, p0, b, true, kb, [p, q, r], [l1, l2, l3], rfl, SqL.of upd_same, sq_of (Same.new np0 _ _ (sm _ _ hb)), rfl, fun D nD => ?_⟩⟩
    · show ((σ3.set 13 none).set 13 _).set 13 none = σ3.set 13 none
      rw [List.set_set, List.set_set]
    have nd : ([(Sum.inr p : Key), Sum.inr q, Sum.inr r]).Nodup := by
      refine List.nodup_cons.mpr ⟨fun h => ?_, List.nodup_cons.mpr ⟨fun h => ?_, by simp⟩⟩
      · simp only [List.mem_cons, List.not_mem_nil, or_false] at h
        rcases h with e | e
        · exact pq (Sum.inr.inj e)
        · exact pr (Sum.inr.inj e)
      · simp only [List.mem_cons, List.not_mem_nil, or_false] at h
        exact qr (Sum.inr.inj h)
    have em2 : mergeK [] (zipK [p, q, r] [l1, l2, l3]) = [((Sum.inr p : Key), l1), (Sum.inr q, l2), (Sum.inr r, l3)] := mergeK_ndB (acc := []) (more := [((Sum.inr p : Key), l1), (Sum.inr q, l2), (Sum.inr r, l3)]) nd
    rw [em2]
    have s1 : Same K2 (upd K2 p0 (.lst [.str p, .str q, .str r])) := Same.new np0
    generalize upd K2 p0 _ = K3 at *
    have s2 : Same K3 (upd K3 D (.dK [((Sum.inr p : Key), l1), (Sum.inr q, l2), (Sum.inr r, l3)])) := Same.new nD
    have hD : (upd K3 D (.dK [((Sum.inr p : Key), l1), (Sum.inr q, l2), (Sum.inr r, l3)])) D = some (.dK [((Sum.inr p : Key), l1), (Sum.inr q, l2), (Sum.inr r, l3)]) := upd_same
    generalize upd K3 D _ = K4 at *
    have s13 := Same.trans s1 s2
    have hL3 := s13 _ _ hL
    have DL : D ≠ L := fun e => by rw [e, s1 _ _ hL] at nD; cases nD
    have sG3 := Same.trans sm s13
    have nDH : H D = none := Same.free S2 (Same.free (Same.trans sm s1) nD)
    have lDs : Ds.length ≤ 16 := by
      rw [paired_len hDs, List.length_take]
      show min i 16 ≤ 16
      omega
    refine ⟨Ds, hL3, small (by omega), Same.upN sG3 nL, Ds ++ [.ref D], upd_same, ?_⟩
    have kG : KeepT (okc H c3) (fun y => H y = none ∧ y ≠ L) G (upd K4 L (.lst (Ds ++ [.ref D]))) := fun b o k _ e => ⟨⟨k.1, ne_of_none e nL⟩, by rw [upd_ne (ne_of_none e nL)]; exact sG3 _ _ e⟩
    rw [List.take_add_one, hpl]
    refine paired_app ⟨D, l1, l2, l3, r1, r2, r3, rfl, ⟨nDH, DL⟩, by rw [upd_ne DL]; exact hD, rfl, y1.to kG, y2.to kG, y3.to kG⟩ (paired_imp hDs fun _ _ h => h.to fun b o k _ e => ⟨k, by rw [upd_ne k.2]; exact s13 _ _ e⟩)
  · rintro K1 ⟨sm, Ds, hL, hDs⟩
    have lv : vs.length = (plR p q r).length := by rw [paired_len hvs]; exact List.length_map _
    rw [lv, List.take_length] at hDs
    exact qq K1 L Ds (Same.trans S2 sm) nLH hL (paired_imp hDs fun _ _ h => h.to (KeepT.mono fun x k _ => k.1))
end
end Ft
set_option Elab.async false
set_option linter.all false
set_option maxRecDepth 100000
set_option maxHeartbeats 2000000
set_option pp.maxSteps 3000
set_option pp.deepTerms.threshold 8
namespace Ft
open PySem L2
def rNeL0 (K : PySem.W.Frag) : R2 := fun x y H Q => ∃ a b xs, x = .ref a ∧ y = .ref b ∧ SqL K H a xs ∧ SqL K H b [] ∧ Q (.bl (xs.length != 0)) H
theorem op_neL0 {X : Cx} (hu : X.A.units < cLine) : OpR X (compareOp .NotEq) (rNeL0 X.K) := by
  intro pins s σ H x y v u Q I rx ry h
  obtain ⟨a, b, xs, rfl, rfl, ha, hb, q⟩ := h
  obtain rfl : v = Value.ref a := rx
  obtain rfl : u = Value.ref b := ry
  obtain ⟨its, rv, pa, _⟩ := I.list ha
  obtain ⟨its2, rv2, pb, _⟩ := I.list hb
  have e2 : its2 = [] := by cases rv2; rfl
  subst e2
  by_cases hn : xs = []
  · subst hn
    have e1 : its = [] := by cases rv; rfl
    subst e1
    exact SeqAt.RcNeAt.lists (e := fun _ => true) pa.isList pb.isList rfl hu (fun j h1 _ => absurd h1 (by simp)) X.prog X.w X.xe _ ⟨.bl false, H, I, rfl, q⟩
  · have l1 : its.length ≠ 0 := by
      rw [← rv.length]
      intro c
      exact hn (List.length_eq_zero_iff.mp c)
    refine SeqAt.RcNeAt.lists_lengths pa.isList pb.isList (by simpa using fun c => l1 (by rw [c]; rfl)) hu X.prog X.w X.xe _ ⟨.bl true, H, I, rfl, ?_⟩
    have : (xs.length != 0) = true := by simpa using hn
    rw [this] at q
    exact q
section
variable {P : PySem.Program} {w : World} {K : PySem.W.Frag} {mg : Str → Option Value} {base : Heap}
abbrev sLShuffled : Stmt := topS 39
theorem scLShuffled : FnScope ["_law_source_here", "_law_things", "_law_left", "_law_found"] ["_law_source_here", "_law_things"] (defScope sLShuffled) := ⟨rfl, rfl, rfl, by decide +kernel, rfl, by decide +kernel, by decide +kernel⟩
def spLShuffled : Sp := fun vs H Q _ => ∃ (a p : Addr) (n : Int) (xs : List V), vs = [.ref a, .ref p] ∧ Src H a n ∧ n < 2 ^ 39 ∧ p ≠ a ∧ H p = some (.lst xs) ∧ xs.length ≤ 1000 ∧
  ∀ H' l ys n', Fr (· ≠ a) H H' → Src H' a n' → n ≤ n' → n' ≤ n + xs.length → H l = none → H' l = some (.lst ys) → ys.Perm xs → Q (.ref l) H'
theorem ok_LShuffled {f : Addr} {fd : FuncData} {k : Nat} (F : Fun K "_law_shuffled" "_law_shuffled" sLShuffled f fd) (B : Bl mg) (hk : 1 ≤ k) (gLDraw : Own P w K mg base 1 "_law_draw" ["_law_source_here", "_law_many"] spLDraw) : FnOk P w K mg base CX0 (k + 1) f fd ["_law_source_here", "_law_things"] spLShuffled := by
  refine F.ok scLShuffled (fun vs H Q E h => ?_) (fun cdv A outer s H vs Q E hr h => ?_)
  · obtain ⟨a, p, n, xs, rfl, _⟩ := h
    rfl
  obtain ⟨a, p, n, xs, rfl, sr, hn, pa, hp, lx, q⟩ := h
  refine ⟨_, (pss_cons (ps_par (i := 2) (j := 3) (by rfl) scLShuffled.nd rfl rfl (by decide) rfl rfl (pa_cons (pe_callTy call_list_of (by rfl) B.list (by decide +kernel) (pa_cons (pv 1) pa_nil)) (pa_cons (pe_lst pa_nil) pa_nil)) (by rfl))
      (pss_cons (ps_while PassesOwn.never (pt_cmpR (opK (K := K) rNeL0 (op_neL0 hr.units0) rfl) (pv 2) (pe_lst pa_nil) (nomark _)) (pss_one (ps_expr (pe_bm PySem.F.plainAttrs_list PySem.F.slot_list_append PySem.F.type_list_append mt_append (pv 3) (pa_cons (pe_bm PySem.F.plainAttrs_list PySem.F.slot_list_pop PySem.F.type_list_pop mt_popAt (pv 2) (pa_cons (pe_own gLDraw (hr.mono (by omega)) (by rfl) (pa_cons (pv 0) (pa_cons (pe_callB call_len_seq (by rfl) B.len (by decide +kernel) (pa_cons (pv 2) pa_nil)) pa_nil))) pa_nil)) pa_nil)))))
      (pss_one (ps_ret (pv 3))))), ?_⟩
  refine ⟨_, rfl, p, xs, rfl, .inl (SqL.of hp), fun l0 nl0 => ⟨Nat.zero_le _, fun f0 nf0 => ⟨_, _, rfl, ?_⟩⟩⟩
  have l0a : l0 ≠ a := sr.nn nl0
  have l0f : f0 ≠ l0 := fun e => by rw [e, upd_same] at nf0; cases nf0
  have nfH : H f0 = none := by rw [upd_ne l0f] at nf0; exact nf0
  have f0a : f0 ≠ a := sr.nn nfH
  refine ⟨fun m σ H' => ∃ rest done n', σ = [some (.ref a), some (.ref p), some (.ref l0), some (.ref f0)] ∧ rest.length = m ∧ (done ++ rest).Perm xs ∧ Fr (· ≠ a) H H' ∧ Src H' a n' ∧ n ≤ n' ∧ n' ≤ n + done.length ∧ H' l0 = some (.lst rest) ∧ H' f0 = some (.lst done),
    ⟨xs.length, xs, [], n, rfl, rfl, List.Perm.refl _, (Fr.new nl0).trans (Fr.new nf0), (sr.new nl0).new nf0, by omega, by simp, by rw [upd_ne l0f.symm]; exact upd_same, upd_same⟩, ?_⟩
  rintro m σ H1 ⟨rest, done, n1, rfl, hm, hpm, fr1, sr1, n10, n11, hl1, hf1⟩
  have lenp : done.length + rest.length = xs.length := by
    have := hpm.length_eq
    rwa [List.length_append] at this
  refine ⟨_, rfl, Nat.zero_le _, fun e0 ne0 => ⟨l0, e0, rest, rfl, rfl, SqL.of (Same.new ne0 _ _ hl1), SqL.of upd_same, _, rfl, ?_⟩⟩
  have fe : Same H1 (upd H1 e0 (.lst [])) := Same.new ne0
  generalize upd H1 e0 _ = G at *
  have frG : Fr (· ≠ a) H G := fr1.trans (Fr.same fe)
  have srG : Src G a n1 := sr1.fr (ok := fun _ => True) (Fr.same fe) trivial
  have hlG := fe _ _ hl1
  have hfG := fe _ _ hf1
  cases rest with
  | nil =>
    refine iteF ⟨_, rfl, q _ f0 done n1 frG srG n10 (by simp at lenp; omega) nfH hfG ?_⟩
    rw [List.append_nil] at hpm
    exact hpm
  | cons x0 rest' =>
    generalize hr0 : x0 :: rest' = rest at *
    have rpos : 0 < rest.length := by rw [← hr0]; simp
    have hc : (rest.length != 0) = true := by rw [bne_iff_ne]; omega
    rw [hc]
    refine iteT ⟨fun σ' H' => ∃ m', m' < m ∧ ∃ rest done n', σ' = [some (.ref a), some (.ref p), some (.ref l0), some (.ref f0)] ∧ rest.length = m' ∧ (done ++ rest).Perm xs ∧ Fr (· ≠ a) H H' ∧ Src H' a n' ∧ n ≤ n' ∧ n' ≤ n + done.length ∧ H' l0 = some (.lst rest) ∧ H' f0 = some (.lst done), fun σ' H' h => h, ?_⟩
    refine ⟨_, rfl, .inl ⟨rfl, _, SqL.of hfG⟩, _, rfl, .inl ⟨rfl, _, SqL.of hlG⟩, _, rfl, _, rfl, l0, _, rfl, .inl (SqL.of hlG), a, _, n1, rfl, srG, by omega, by omega, by omega, fun H2 j fr2 sr2 j0 j1 => ?_⟩
    have hl2 := fr2 _ _ l0a hlG
    have hf2 := fr2 _ _ f0a hfG
    have jn : j.toNat < rest.length := by omega
    obtain ⟨y, hy⟩ : ∃ y, rest[j.toNat]? = some y := ⟨_, List.getElem?_eq_getElem jn⟩
    refine ⟨l0, rest, j, j.toNat, y, rfl, rfl, hl2, by omega, by omega, seqIx j0 j1, hy, ?_⟩
    have hf3 : (upd H2 l0 (.lst (rest.eraseIdx j.toNat))) f0 = some (.lst done) := by rw [upd_ne l0f]; exact hf2
    refine ⟨f0, done, y, rfl, rfl, hf3, small (by omega), _, ?_, rest.eraseIdx j.toNat, done ++ [y], n1 + 1, rfl, rfl, ?_, ((frG.trans fr2).upN nl0).upN nfH, (sr2.ne l0a.symm).ne f0a.symm, by omega, by rw [List.length_append]; simp; omega, by rw [upd_ne l0f.symm]; exact upd_same, upd_same⟩
    · rw [List.length_eraseIdx_of_lt jn]; omega
    · refine List.Perm.trans ?_ hpm
      rw [List.append_assoc]
      refine List.Perm.append_left _ ?_
      exact erase_perm hy
end
end Ft
set_option Elab.async false
set_option linter.all false
set_option maxRecDepth 100000
set_option maxHeartbeats 2000000
set_option pp.maxSteps 3000
set_option pp.deepTerms.threshold 10
namespace Ft
open PySem L2 PySem.W
/-- xs == [] -/
def rEqL0 (K : PySem.W.Frag) : R2 := fun x y H Q => ∃ a b xs, x = .ref a ∧ y = .ref b ∧ SqL K H a xs ∧ SqL K H b [] ∧ Q (.bl (xs.length == 0)) H
theorem op_eqL0 {X : Cx} (hu : X.A.units < cLine) : OpR X (compareOp .Eq) (rEqL0 X.K) := by
  intro pins s σ H x y v u Q I rx ry h
  obtain ⟨a, b, xs, rfl, rfl, ha, hb, q⟩ := h
  obtain rfl : v = Value.ref a := rx
  obtain rfl : u = Value.ref b := ry
  obtain ⟨its, rv, pa, _⟩ := I.list ha
  obtain ⟨its2, rv2, pb, _⟩ := I.list hb
  have e2 : its2 = [] := by cases rv2; rfl
  subst e2
  by_cases hn : xs = []
  · subst hn
    have e1 : its = [] := by cases rv; rfl
    subst e1
    exact SeqAt.RcAt.lists (e := fun _ => true) pa.isList pb.isList rfl hu (fun j h1 _ => absurd h1 (by simp)) X.prog X.w X.xe _ ⟨.bl true, H, I, rfl, q⟩
  · have l1 : its.length ≠ 0 := by
      rw [← rv.length]
      intro c
      exact hn (List.length_eq_zero_iff.mp c)
    refine SeqAt.RcAt.lists_lengths pa.isList pb.isList (by simpa using fun c => l1 (by rw [c]; rfl)) hu X.prog X.w X.xe _ ⟨.bl false, H, I, rfl, ?_⟩
    have : (xs.length == 0) = false := by simpa using hn
    rw [this] at q
    exact q
/-- min of a list of texts: one of them -/
def rMinS (K : PySem.W.Frag) : List V → Hp → VK → Prop := fun vs H Q => ∃ (a : Addr) (zs : List Str), vs = [.ref a] ∧ SqL K H a (zs.map V.str) ∧ zs ≠ [] ∧ ∀ z ∈ zs, Q (.str z) H
theorem alikeAll_strs (zs : List Str) : AlikeAll (zs.map PyData.str) := by
  refine ⟨fun x hx y hy => ?_, fun x hx => ?_⟩
  · obtain ⟨z, _, rfl⟩ := List.mem_map.mp hx
    obtain ⟨z2, _, rfl⟩ := List.mem_map.mp hy
    simp [alike]
  · obtain ⟨z, _, rfl⟩ := List.mem_map.mp hx
    exact fun h => nomatch h
theorem depth_strs0 : ∀ (zs : List Str), PyData.depthAll (zs.map PyData.str) = 0
  | [] => by simp [PyData.depthAll]
  | z :: zs => by
    rw [List.map_cons]
    simp [PyData.depthAll, PyData.depth, depth_strs0 zs]
theorem vals_ixS {vs : List V} : ∀ {us : List Value} {i : Nat} {u : Value}, Vals vs us → us[i]? = some u → ∃ v, vs[i]? = some v ∧ RelV v u := by
  induction vs with
  | nil => intro us i u h e; cases h; simp at e
  | cons x xs ih =>
    intro us i u h e
    cases h with
    | cons r t =>
      cases i with
      | zero => exact ⟨x, rfl, by rw [← Option.some.inj (show some _ = some _ from e)]; exact r⟩
      | succ i => exact ih t e
theorem cr_minS {X : Cx} (hc : X.calm = true) (hu : X.A.units + 64 < cLine) : CallR X (.builtin "min") (rMinS X.K) := by
  intro pins s σ H vs us Q I r h
  obtain ⟨a, zs, rfl, hs, hne, q⟩ := h
  obtain ⟨its, rv, hl, hz⟩ := I.list hs
  rw [Vals.ref1 r]
  obtain ⟨z0, zs', rfl⟩ := List.exists_cons_of_ne_nil hne
  obtain ⟨as, hr⟩ := Dp.readsAll I _ _ _ (dpStrs (K := X.K) (H := H) (z0 :: zs')) rv
  refine min_list_data (I.ok.hd hc) hl.isList hr (alikeAll_strs (z0 :: zs')) (by show X.A.units + 1 + PyData.depthAll ((z0 :: zs').map PyData.str) < cLine; rw [depth_strs0 (z0 :: zs')]; omega) fun i u h' tk bs hi hrd hk => ?_
  have hi' : its[i]? = some u := by simpa using hi
  obtain ⟨v, hv, rel⟩ := vals_ixS rv hi'
  obtain ⟨z, hz, rfl⟩ := List.mem_map.mp (List.mem_of_getElem? hv)
  exact ⟨_, H, I.kept hk, rel, q z hz⟩
def DRows (ok : Addr → Prop) (H : Hp) (v : V) (rs : List Row) : Prop := ∃ l xs, v = .ref l ∧ ok l ∧ H l = some (.lst xs) ∧ Paired (RowAt ok anyK H 3) xs rs
theorem DRows.to {ok ok' : Addr → Prop} {H H' : Hp} {v : V} {rs : List Row} (h : DRows ok H v rs) (k : Keep ok ok' H H') : DRows ok' H' v rs := by
  obtain ⟨l, xs, e, o, hl, hp⟩ := h
  have := k l true xs o hl
  exact ⟨l, xs, e, this.1, this.2, paired_imp hp fun _ _ q => q.to k⟩
theorem DRows.rows {ok : Addr → Prop} {H : Hp} {v : V} {rs : List Row} (h : DRows ok H v rs) : RowsAt ok anyK H 3 v rs := by
  obtain ⟨l, xs, e, o, hl, hp⟩ := h
  exact ⟨xs, ⟨l, true, e, o, trivial, hl⟩, hp⟩
theorem kdT_rows {kd : Bool} {rs : List Row} (h : kdT kd (rs.map (toT 3)) = true) (ho : ∀ r ∈ rs, RowOk 3 false r) : kd = true := by
  cases kd with
  | true => rfl
  | false =>
    cases rs with
    | nil => cases h
    | cons r rs => cases r <;> cases h
theorem DRows.th {ok : Addr → Prop} {H : Hp} {m : Nat} {v : V} {rs : List Row} (h : ThL ok H m v (.sq (rs.map (toT 3)))) (ho : ∀ r ∈ rs, RowOk 3 false r) : DRows ok H v rs := by
  obtain ⟨m', a, kd, xs, rfl, e, o, ha, _, hk, hp⟩ := thL_sq h
  have ek := kdT_rows hk ho
  subst ek
  refine ⟨a, xs, e, o, ha, ?_⟩
  have go : ∀ {xs : List V} {rs : List Row}, (∀ r ∈ rs, RowOk 3 false r) → Paired (ThL ok H m') xs (rs.map (toT 3)) → Paired (RowAt ok anyK H 3) xs rs := by
    intro xs
    induction xs with
    | nil =>
      intro rs _ h
      cases rs with
      | nil => exact .nil
      | cons _ _ => cases h
    | cons x xs ih =>
      intro rs ho h
      cases rs with
      | nil => cases h
      | cons r rs =>
        cases h with
        | cons p q => exact .cons (th_row 3 false m' x r (ho r (by simp)) p.th) (ih (fun u hu => ho u (by simp [hu])) q)
  exact go ho hp
/-- the library's dict: D's entries and the rows behind them -/
structure DLb (ok : Addr → Prop) (H : Hp) (kvs : List (Key × V)) (lib : Lib) (c : Nat) : Prop where
  l : Paired (fun (kv : Key × V) (m : Str × List Row) => kv.1 = Sum.inr m.1 ∧ DRows ok H kv.2 m.2) kvs lib
  nd : (lib.map (·.1)).Nodup
  o : ∀ m ∈ lib, m.2.length ≤ c ∧ ∀ r ∈ m.2, RowOk 3 false r
theorem DLb.to {ok ok' : Addr → Prop} {H H' : Hp} {kvs : List (Key × V)} {lib : Lib} {c : Nat} (h : DLb ok H kvs lib c) (k : Keep ok ok' H H') : DLb ok' H' kvs lib c := ⟨paired_imp h.l fun _ _ q => ⟨q.1, q.2.to k⟩, h.nd, h.o⟩
theorem DLb.le {ok : Addr → Prop} {H : Hp} {kvs : List (Key × V)} {lib : Lib} {c c' : Nat} (h : DLb ok H kvs lib c) (k : c ≤ c') : DLb ok H kvs lib c' := ⟨h.l, h.nd, fun m hm => ⟨Nat.le_trans (h.o m hm).1 k, (h.o m hm).2⟩⟩
theorem DLb.at {ok : Addr → Prop} {H : Hp} {kvs : List (Key × V)} {lib : Lib} {c : Nat} (h : DLb ok H kvs lib c) : LibAt ok anyK H kvs lib := paired_imp h.l fun _ _ q => ⟨q.1, q.2.rows⟩
theorem DLb.keys {ok : Addr → Prop} {H : Hp} {kvs : List (Key × V)} {lib : Lib} {c : Nat} (h : DLb ok H kvs lib c) : kvs.map (·.1) = (lib.map (·.1)).map Sum.inr := libAt_keys h.at
theorem DLb.kvd {ok : Addr → Prop} {H : Hp} {kvs : List (Key × V)} {lib : Lib} {c : Nat} (h : DLb ok H kvs lib c) : (kvs.map (·.1)).Nodup := by rw [h.keys]; exact List.Pairwise.map _ (fun _ _ h e => h (Sum.inr.inj e)) h.nd
theorem DLb.ix {ok : Addr → Prop} {H : Hp} {kvs : List (Key × V)} {lib : Lib} {c i : Nat} {k : Key} {v : V} (h : DLb ok H kvs lib c) (hi : kvs[i]? = some (k, v)) : ∃ z rs, k = Sum.inr z ∧ lib[i]? = some (z, rs) ∧ DRows ok H v rs ∧ valV kvs (Sum.inr z) = some v := by
  obtain ⟨⟨z, rs⟩, hm, e, hr⟩ := paired_get h.l hi
  have e' : k = Sum.inr z := e
  subst e'
  exact ⟨z, rs, rfl, hm, hr, valV_at h.kvd hi⟩
theorem DLb.get {ok : Addr → Prop} {H : Hp} {kvs : List (Key × V)} {lib : Lib} {c : Nat} {z : Str} (h : DLb ok H kvs lib c) (hz : z ∈ lib.map (·.1)) : ∃ v rs, (z, rs) ∈ lib ∧ DRows ok H v rs ∧ valV kvs (Sum.inr z) = some v := by
  have hk : (Sum.inr z : Key) ∈ kvs.map (·.1) := by rw [h.keys]; exact List.mem_map.mpr ⟨z, hz, rfl⟩
  obtain ⟨⟨k, v⟩, hkv, e⟩ := List.mem_map.mp hk
  have e' : k = Sum.inr z := e
  subst e'
  obtain ⟨i, hi, ei⟩ := List.mem_iff_getElem.mp hkv
  obtain ⟨z', rs, ez, hm, hr, hv⟩ := h.ix (i := i) (k := Sum.inr z) (v := v) (by rw [List.getElem?_eq_getElem hi, ei])
  have := Sum.inr.inj ez
  subst this
  exact ⟨v, rs, List.mem_of_getElem? hm, hr, hv⟩
theorem DLb.put {ok : Addr → Prop} {H : Hp} {kvs : List (Key × V)} {lib : Lib} {c c' : Nat} {z : Str} {v : V} {rs : List Row} (h : DLb ok H kvs lib c) (hz : z ∈ lib.map (·.1)) (hv : DRows ok H v rs) (hc : c ≤ c') (hr : rs.length ≤ c' ∧ ∀ r ∈ rs, RowOk 3 false r) : DLb ok H (putK kvs (Sum.inr z) v) (putL lib z rs) c' := by
  refine ⟨?_, putL_nd h.nd, fun m hm => ?_⟩
  · unfold putK putL
    rw [putL_any (z := z) h.at]
    rw [if_pos, if_pos]
    · have go : ∀ {kvs : List (Key × V)} {lib : Lib}, Paired (fun (kv : Key × V) (m : Str × List Row) => kv.1 = Sum.inr m.1 ∧ DRows ok H kv.2 m.2) kvs lib → Paired (fun (kv : Key × V) (m : Str × List Row) => kv.1 = Sum.inr m.1 ∧ DRows ok H kv.2 m.2) (kvs.map (fun kv => if kv.1 = Sum.inr z then (kv.1, v) else kv)) (lib.map (fun m => if m.1 = z then (m.1, rs) else m)) := by
        intro kvs lib h
        induction h with
        | nil => exact .nil
        | cons r t ih =>
          refine .cons ?_ ih
          rename_i kv m _ _
          dsimp only
          by_cases e : m.1 = z
          · have e2 : kv.1 = Sum.inr z := by rw [r.1, e]
            rw [if_pos e, if_pos e2]
            exact ⟨r.1, hv⟩
          · have e2 : ¬ kv.1 = Sum.inr z := by rw [r.1]; exact fun q => e (Sum.inr.inj q)
            rw [if_neg e, if_neg e2]
            exact r
      exact go h.l
    all_goals
      obtain ⟨m, hm, e⟩ := List.mem_map.mp hz
      exact List.any_eq_true.mpr ⟨m, hm, decide_eq_true e⟩
  · rcases putL_mem hm with e | hm
    · rw [e]; exact hr
    · exact ⟨Nat.le_trans (h.o m hm).1 hc, (h.o m hm).2⟩
theorem DLb.names {lib : Lib} {z : Str} {rs : List Row} (hz : z ∈ lib.map (·.1)) : (putL lib z rs).map (·.1) = lib.map (·.1) := by
  rw [putL_keys, if_pos hz]
theorem DLb.drop {ok : Addr → Prop} {H : Hp} {kvs : List (Key × V)} {lib : Lib} {c : Nat} {z : Str} (h : DLb ok H kvs lib c) : DLb ok H (dropK kvs (Sum.inr z)) (lib.filter fun m => decide (m.1 ≠ z)) c := by
  refine ⟨?_, ?_, fun m hm => h.o m (List.mem_filter.mp hm).1⟩
  · have go : ∀ {kvs : List (Key × V)} {lib : Lib}, Paired (fun (kv : Key × V) (m : Str × List Row) => kv.1 = Sum.inr m.1 ∧ DRows ok H kv.2 m.2) kvs lib → Paired (fun (kv : Key × V) (m : Str × List Row) => kv.1 = Sum.inr m.1 ∧ DRows ok H kv.2 m.2) (dropK kvs (Sum.inr z)) (lib.filter fun m => decide (m.1 ≠ z)) := by
      intro kvs lib h
      induction h with
      | nil => exact .nil
      | cons r t ih =>
        rename_i kv m _ _
        unfold dropK at ih ⊢
        rw [List.filter_cons, List.filter_cons]
        by_cases e : m.1 = z
        · have e2 : kv.1 = Sum.inr z := by rw [r.1, e]
          rw [if_neg (fun h => absurd e2 (of_decide_eq_true h)), if_neg (fun h => absurd e (of_decide_eq_true h))]
          exact ih
        · have e2 : ¬ kv.1 = Sum.inr z := by rw [r.1]; exact fun q => e (Sum.inr.inj q)
          rw [if_pos (decide_eq_true e2), if_pos (decide_eq_true e)]
          exact .cons r ih
    exact go h.l
  · have : (lib.filter fun m => decide (m.1 ≠ z)).map (·.1) = (lib.map (·.1)).filter fun x => decide (x ≠ z) := by
      rw [List.filter_map]; rfl
    rw [this]
    exact h.nd.filter _
def totD (lib : Lib) : Nat := (lib.map fun m => m.2.length).sum
theorem totD_put {lib : Lib} {z : Str} {rs rs0 : List Row} (nd : (lib.map (·.1)).Nodup) (hm : (z, rs0) ∈ lib) (h : rs.length < rs0.length) : totD (putL lib z rs) < totD lib := by
  unfold putL
  rw [if_pos (List.any_eq_true.mpr ⟨_, hm, decide_eq_true rfl⟩)]
  unfold totD
  induction lib with
  | nil => cases hm
  | cons m lib ih =>
    rw [List.map_cons, List.nodup_cons] at nd
    rw [List.map_cons, List.map_cons, List.map_cons, List.sum_cons, List.sum_cons]
    rcases List.mem_cons.mp hm with e | hm
    · subst e
      rw [if_pos rfl]
      have : lib.map (fun m => if m.1 = z then (m.1, rs) else m) = lib := by
        conv => rhs; rw [← List.map_id lib]
        refine List.map_congr_left fun u hu => ?_
        rw [if_neg fun e => nd.1 (List.mem_map.mpr ⟨u, hu, e⟩)]
        rfl
      rw [this]
      show rs.length + _ < rs0.length + _
      omega
    · have := ih nd.2 hm
      have hz : ¬ m.1 = z := fun e => nd.1 (List.mem_map.mpr ⟨_, hm, e.symm⟩)
      rw [if_neg hz]
      omega
end Ft
set_option Elab.async false
set_option linter.all false
set_option maxRecDepth 100000
set_option maxHeartbeats 2000000
set_option pp.maxSteps 3000
set_option pp.deepTerms.threshold 10
namespace Ft
open PySem L2
def pairB : List Bool → List V → Bool
  | [], [] => true
  | k :: ks, v :: vs => fldOk k v && pairB ks vs
  | _, _ => false
def rowC : Nat → Bool → Row → Bool
  | _, wi, .plain w fs => plainT.any fun p => decide (p.1 = w) && pairB p.2 fs && (!wi || !decide (w = "call"))
  | d + 1, wi, .make n b => !wi && isW n && decide (b.length ≤ 24) && b.all (rowC d true)
  | d + 1, wi, .when n b c => isW n && decide (b.length ≤ 24) && decide (c.length ≤ 24) && b.all (rowC d wi) && c.all (rowC d wi)
  | d + 1, wi, .try_ b c => decide (b.length ≤ 24) && decide (c.length ≤ 24) && b.all (rowC d wi) && c.all (rowC d wi)
  | 0, _, _ => false
theorem pairB_ok : ∀ {ks : List Bool} {vs : List V}, pairB ks vs = true → Paired (fun k v => fldOk k v = true) ks vs
  | [], [], _ => .nil
  | k :: ks, v :: vs, h => by
    unfold pairB at h
    rw [Bool.and_eq_true] at h
    exact .cons h.1 (pairB_ok h.2)
  | [], _ :: _, h => by cases h
  | _ :: _, [], h => by cases h
theorem plainC_ok {wi : Bool} {w : Str} {fs : List V} (h : (plainT.any fun p => decide (p.1 = w) && pairB p.2 fs && (!wi || !decide (w = "call"))) = true) : plainOk wi w fs := by
  obtain ⟨⟨w', ks⟩, hm, e⟩ := List.any_eq_true.mp h
  simp only [Bool.and_eq_true, decide_eq_true_eq, Bool.or_eq_true, Bool.not_eq_true', decide_eq_false_iff_not] at e
  obtain ⟨⟨e1, e2⟩, e3⟩ := e
  subst e1
  refine ⟨ks, hm, pairB_ok e2, fun hw => ?_⟩
  rcases e3 with e | e
  · rw [hw] at e; cases e
  · exact e
theorem rowC_ok : ∀ {d : Nat} {wi : Bool} {r : Row}, rowC d wi r = true → RowOk d wi r := by
  intro d
  induction d with
  | zero =>
    intro wi r h
    cases r with
    | plain w fs => exact plainC_ok h
    | make n b => cases h
    | when n b c => cases h
    | try_ b c => cases h
  | succ d ih =>
    intro wi r h
    cases r with
    | plain w fs => exact plainC_ok h
    | make n b =>
      unfold rowC at h
      simp only [Bool.and_eq_true, decide_eq_true_eq, Bool.not_eq_true', List.all_eq_true] at h
      exact ⟨h.1.1.1, h.1.1.2, h.1.2, fun r hr => ih (h.2 r hr)⟩
    | when n b c =>
      unfold rowC at h
      simp only [Bool.and_eq_true, decide_eq_true_eq, List.all_eq_true] at h
      exact ⟨h.1.1.1.1, h.1.1.1.2, h.1.1.2, fun r hr => ih (h.1.2 r hr), fun r hr => ih (h.2 r hr)⟩
    | try_ b c =>
      unfold rowC at h
      simp only [Bool.and_eq_true, decide_eq_true_eq, List.all_eq_true] at h
      exact ⟨h.1.1.1, h.1.1.2, fun r hr => ih (h.1.2 r hr), fun r hr => ih (h.2 r hr)⟩
def abcD : List Str := ["a", "b", "c"]
theorem perm3 {z0 z1 z2 : Str} (h : [z0, z1, z2].Perm abcD) : (z0, z1, z2) ∈ ([("a", "b", "c"), ("a", "c", "b"), ("b", "a", "c"), ("b", "c", "a"), ("c", "a", "b"), ("c", "b", "a")] : List (Str × Str × Str)) := by
  have nd : [z0, z1, z2].Nodup := h.nodup_iff.mpr (by decide)
  have m : ∀ z ∈ [z0, z1, z2], z = ("a" : Str) ∨ z = ("b" : Str) ∨ z = ("c" : Str) := fun z hz => by
    have := h.mem_iff.mp hz
    simpa [abcD] using this
  have m0 := m z0 (by simp)
  have m1 := m z1 (by simp)
  have m2 := m z2 (by simp)
  clear m h
  rcases m0 with rfl | rfl | rfl <;> rcases m1 with rfl | rfl | rfl <;> rcases m2 with rfl | rfl | rfl <;> first | decide | exact absurd nd (by decide)
theorem plR_ok {z0 z1 z2 : Str} (h : [z0, z1, z2].Perm abcD) : ∀ pl ∈ plR z0 z1 z2, ∀ rs ∈ pl, rs.length ≤ 5 ∧ ∀ r ∈ rs, RowOk 3 false r := by
  have hb : (plR z0 z1 z2).all (fun pl => pl.all fun rs => decide (rs.length ≤ 5) && rs.all (rowC 3 false)) = true := by
    have := perm3 h
    simp only [List.mem_cons, List.not_mem_nil, or_false, Prod.mk.injEq] at this
    rcases this with ⟨rfl, rfl, rfl⟩ | ⟨rfl, rfl, rfl⟩ | ⟨rfl, rfl, rfl⟩ | ⟨rfl, rfl, rfl⟩ | ⟨rfl, rfl, rfl⟩ | ⟨rfl, rfl, rfl⟩ <;> decide +kernel
  intro pl hpl rs hrs
  have h1 := List.all_eq_true.mp (List.all_eq_true.mp hb pl hpl) rs hrs
  rw [Bool.and_eq_true, decide_eq_true_eq] at h1
  exact ⟨h1.1, fun r hr => rowC_ok (List.all_eq_true.mp h1.2 r hr)⟩
end Ft
set_option Elab.async false
set_option linter.all false
set_option maxRecDepth 100000
set_option maxHeartbeats 2000000
set_option pp.maxSteps 3000
set_option pp.deepTerms.threshold 8
namespace Ft
open PySem L2
theorem sum_nn : ∀ {ns : List Int}, (∀ n ∈ ns, 0 ≤ n) → 0 ≤ ns.sum
  | [], _ => Int.le_refl 0
  | n :: ns, h => by
    rw [List.sum_cons]
    have h1 := h n (by simp)
    have h2 := sum_nn (ns := ns) fun m hm => h m (by simp [hm])
    omega
section
variable {P : PySem.Program} {w : World} {K : PySem.W.Frag} {mg : Str → Option Value} {base : Heap}
abbrev sLSize : Stmt := topS 45
theorem scLSize : FnScope ["_law_rows", "_law_row", "_law_block"] ["_law_rows"] (defScope sLSize) := ⟨rfl, rfl, rfl, by decide +kernel, rfl, by decide +kernel, by decide +kernel⟩
def spLSize (d : Nat) : Sp := fun vs H Q _ => ∃ (v : V) (ok : Addr → Prop) (kk : Bool → Bool → Prop) (wi : Bool) (rs : List Row), vs = [v] ∧ RowsAt ok kk H d v rs ∧ rs.length ≤ 24 ∧ (∀ r ∈ rs, RowOk d wi r) ∧
  ∀ H' n, Same H H' → 0 ≤ n → (rs = [] → n = 0) → Q (.int n) H'
theorem ok_LSize {f : Addr} {fd : FuncData} {k d : Nat} {spF : Sp} (F : Fun K "_law_size" "_law_size" sLSize f fd) (B : Bl mg) (hk : 1 ≤ k) (gLBlocks : Own P w K mg base 1 "_law_blocks" ["_law_row"] spBlocksOf)
    (gLSize : Own P w K mg base k "_law_size" ["_law_rows"] spF) (hF : ∀ e, d = e + 1 → spF = spLSize e) : FnOk P w K mg base CX0 (k + 1) f fd ["_law_rows"] (spLSize d) := by
  refine F.ok scLSize (fun vs H Q E h => ?_) (fun cdv A outer s H vs Q E hr h => ?_)
  · obtain ⟨v, ok, kk, wi, rs, rfl, _⟩ := h
    rfl
  obtain ⟨v, ok, kk, wi, rs, rfl, hrs, hlen, hok, q⟩ := h
  refine ⟨_, (pss_one (ps_ret (pe_callB (cr_sum rfl) (by rfl) B.sum (by decide +kernel) (pa_cons (pe_lc (own := [("_law_row", 1)]) (g := (gName 1)) (tt := tYes) (by rfl) scLSize.nd (pi_seq (pv 0)) (blkOk_by (own := [("_law_row", 1)]) (N := ["_law_rows", "_law_row", "_law_block"]) (sc := defScope sLSize) (by decide +kernel)) (fun _ _ _ _ _ => (pg_name (i := 1) scLSize.nd rfl (by first | exact Or.inl rfl | exact Or.inr rfl))) (fun _ _ _ _ _ => pts_nil) (fun _ _ _ _ _ => (pe_op op_add pe_int (pe_callB (callK (K := K) rSum (cr_sum rfl) rfl) (by rfl) B.sum (by decide +kernel) (pa_cons (pe_lc (own := [("_law_block", 2)]) (g := (gName 2)) (tt := tYes) (by rfl) scLSize.nd (pi_listK (K := K) (pe_own gLBlocks (hr.mono (by omega)) (by rfl) (pa_cons (pv 1) pa_nil)) rfl) (blkOk_by (own := [("_law_block", 2)]) (by rfl)) (fun _ _ _ _ _ => (pg_name (i := 2) scLSize.nd rfl (by first | exact Or.inl rfl | exact Or.inr rfl))) (fun _ _ _ _ _ => pts_nil) (fun _ _ _ _ _ => (pe_own gLSize (hr.mono (by omega)) (by rfl) (pa_cons (pv 2) pa_nil)))) pa_nil))))) pa_nil)))), ?_⟩
  obtain ⟨xs, ⟨a, kd, rfl, oka, kka, ha⟩, hxs⟩ := hrs
  refine ⟨_, rfl, a, kd, xs, rfl, sq_of ha, fun D nD => ?_⟩
  refine lc_it walk_seq (fun i H' => Same H H' ∧ ∃ ns : List Int, H' D = some (.lst (ns.map V.int)) ∧ ns.length = i ∧ ∀ n ∈ ns, 0 ≤ n)
    ⟨Same.new nD, [], upd_same, rfl, by simp⟩ (fun i H' _ ⟨sm, _⟩ => sq_of (sm _ _ ha)) ?_ ?_
  · rintro i x H1 H2 hi ⟨sm, ns, hD, ln, hn⟩ ⟨rfl, hx⟩
    obtain ⟨r, hr', hrow⟩ := paired_get hxs hx
    have rok := hok r (List.mem_of_getElem? hr')
    have b3 := blocks_len rok
    have hrow1 : RowAt ok kk H2 d x r := hrow.to (Keep.fr (Fr.same sm) fun _ k => k)
    refine ⟨rfl, _, rfl, x, ok, kk, d, wi, r, rfl, rok, hrow1, fun H3 bl ys s3 nb hbl hys => ⟨bl, rfl, ⟨_, SqL.of hbl⟩, fun D2 nD2 => ?_⟩⟩
    have lys : ys.length = (blocks r).length := paired_len hys
    refine lc_it walk_list (fun j H' => Same H3 H' ∧ ∃ ms : List Int, H' D2 = some (.lst (ms.map V.int)) ∧ ms.length = j ∧ ∀ n ∈ ms, 0 ≤ n)
      ⟨Same.new nD2, [], upd_same, rfl, by simp⟩ (fun j H' _ ⟨sm, _⟩ => SqL.of (sm _ _ hbl)) ?_ ?_
    · rintro j y H4 H5 hj ⟨sm4, ms, hD2, lm, hm⟩ ⟨rfl, hy⟩
      obtain ⟨b, hb', e, rfl, hrows⟩ := paired_get hys hy
      have eF := hF e rfl
      subst eF
      obtain ⟨e', he', h8, hr8⟩ := blk_ok rok (List.mem_of_getElem? hb')
      have ee : e = e' := Nat.succ.inj he'
      subst ee
      refine ⟨rfl, _, rfl, y, ok, kk, _, b, rfl, hrows.to (Keep.fr (Fr.same (Same.trans s3 sm4)) fun _ k => k), by omega, hr8, fun H6 n s6 n0 _ => ?_⟩
      refine ⟨_, s6 _ _ hD2, small (by rw [List.length_map]; omega), Same.upN (Same.trans sm4 s6) nD2, ms ++ [n], by rw [upd_same, List.map_append]; rfl, by rw [List.length_append, lm]; rfl, fun m hm' => ?_⟩
      rcases List.mem_append.mp hm' with h | h
      · exact hm m h
      · rw [List.mem_singleton.mp h]; exact n0
    · rintro H4 ⟨sm4, ms, hD2, lm, hm⟩
      have s24 := Same.trans s3 sm4
      refine ⟨D2, ms, rfl, SqL.of hD2, _, _, rfl, rfl, ?_⟩
      have m0 : 0 ≤ ms.sum := sum_nn hm
      refine ⟨_, s24 _ _ hD, small (by rw [List.length_map]; have := paired_len hxs; omega), Same.upN (Same.trans sm s24) nD, ns ++ [1 + ms.sum], by rw [upd_same, List.map_append]; rfl, by rw [List.length_append, ln]; rfl, fun m hm' => ?_⟩
      rcases List.mem_append.mp hm' with h | h
      · exact hn m h
      · rw [List.mem_singleton.mp h]; omega
  · rintro H1 ⟨sm, ns, hD, ln, hn⟩
    refine ⟨D, ns, rfl, SqL.of hD, q _ _ sm (sum_nn hn) fun e => ?_⟩
    have lx := paired_len hxs
    rw [e] at lx
    have : ns = [] := List.eq_nil_of_length_eq_zero (by rw [ln]; exact lx)
    rw [this]
    rfl
theorem lsize_ok {f : Addr} {fd : FuncData} (F : Fun K "_law_size" "_law_size" sLSize f fd) (B : Bl mg) (m : mg "_law_size" = some (.ref f)) (b : Binds K fd ["_law_rows"] []) (gLBlocks : Own P w K mg base 1 "_law_blocks" ["_law_row"] spBlocksOf) :
    ∀ d : Nat, Own P w K mg base (2 + d) "_law_size" ["_law_rows"] (spLSize d)
  | 0 => own_mk F m b (ok_LSize (k := 1) F B (by omega) gLBlocks (own_mk F m b fn_false) (fun e h => absurd h (by omega)))
  | d + 1 => own_mk F m b (ok_LSize (k := 2 + d) F B (by omega) gLBlocks (lsize_ok F B m b gLBlocks d) (fun e h => by
      have : d = e := by omega
      rw [this]))
end
end Ft
set_option Elab.async false
set_option linter.all false
set_option maxRecDepth 100000
set_option maxHeartbeats 2000000
namespace Ft
open PySem L2
theorem paired_takeD {α β : Type} {R : α → β → Prop} : ∀ {xs : List α} {ys : List β} {m : Nat}, Paired R xs ys → Paired R (xs.take m) (ys.take m)
  | _, _, _, .nil => by rw [List.take_nil, List.take_nil]; exact .nil
  | _, _, 0, .cons _ _ => .nil
  | _, _, m + 1, .cons r t => .cons r (paired_takeD (m := m) t)
theorem paired_dropD {α β : Type} {R : α → β → Prop} : ∀ {xs : List α} {ys : List β} {m : Nat}, Paired R xs ys → Paired R (xs.drop m) (ys.drop m)
  | _, _, _, .nil => by rw [List.drop_nil, List.drop_nil]; exact .nil
  | _, _, 0, .cons r t => .cons r t
  | _, _, m + 1, .cons _ t => paired_dropD (m := m) t
theorem cutV_dropD (xs : List V) (k : Nat) : cutV xs (some (k : Int)) none = xs.drop k := by
  unfold cutV
  rw [HT.sIx_nat, HT.sIx_none]
  by_cases h : k ≤ xs.length
  · rw [Nat.min_eq_left h, List.take_of_length_le (by rw [List.length_drop]; omega)]
  · rw [Nat.min_eq_right (by omega), Nat.sub_self, List.take_zero, List.drop_eq_nil_of_le (by omega)]
theorem cutV_takeD (xs : List V) (k : Nat) : cutV xs none (some (k : Int)) = xs.take k := by
  unfold cutV
  rw [HT.sIx_none, List.drop_zero, Nat.sub_zero, HT.sIx_nat]
  by_cases h : k ≤ xs.length
  · rw [Nat.min_eq_left h]
  · rw [Nat.min_eq_right (by omega), List.take_length, List.take_of_length_le (by omega)]
theorem cut_negD (xs : List V) : cutV xs none (some (-1)) = xs.dropLast := by
  unfold cutV
  rw [HT.sIx_none, List.drop_zero, Nat.sub_zero, List.dropLast_eq_take]
  have e : HT.sIx xs.length xs.length (some (-1)) = xs.length - 1 := by
    unfold HT.sIx
    simp
    omega
  rw [e]
theorem paired_lastD {α β : Type} {R : α → β → Prop} {xs : List α} {ys : List β} (h : Paired R xs ys) : Paired R xs.dropLast ys.dropLast := by
  rw [List.dropLast_eq_take, List.dropLast_eq_take, paired_len h]
  exact paired_takeD h
theorem totD_nil {lib : Lib} (h : totD lib = 0) : ∀ m ∈ lib, m.2 = [] := by
  induction lib with
  | nil => intro m hm; cases hm
  | cons u lib ih =>
    have h' : u.2.length + totD lib = 0 := h
    intro m hm
    rcases List.mem_cons.mp hm with rfl | hm
    · exact List.length_eq_zero_iff.mp (by omega)
    · exact ih (by omega) m hm
theorem totD_zero {lib : Lib} (h : ∀ m ∈ lib, m.2.length = 0) : totD lib = 0 := by
  induction lib with
  | nil => rfl
  | cons u lib ih =>
    show u.2.length + totD lib = 0
    rw [h u (by simp), ih fun m hm => h m (by simp [hm])]
theorem nd_fst {β : Type} {l : List (Str × β)} {z : Str} {a b : β} (nd : (l.map (·.1)).Nodup) (ha : (z, a) ∈ l) (hb : (z, b) ∈ l) : a = b := by
  induction l with
  | nil => cases ha
  | cons u l ih =>
    rw [List.map_cons, List.nodup_cons] at nd
    rcases List.mem_cons.mp ha with e1 | h1 <;> rcases List.mem_cons.mp hb with e2 | h2
    · rw [← e1] at e2; exact (Prod.mk.inj e2).2.symm
    · exact absurd (List.mem_map.mpr ⟨_, h2, by rw [← e1]⟩) nd.1
    · exact absurd (List.mem_map.mpr ⟨_, h1, by rw [← e2]⟩) nd.1
    · exact ih nd.2 h1 h2
theorem spots_nilD {lib : Lib} (h : ∀ m ∈ lib, m.2 = []) : spotsL lib = [] := by
  unfold spotsL
  rw [List.flatMap_eq_nil_iff]
  intro m hm
  unfold spotsM
  rw [h m hm]
  rfl
theorem sum_zeroD {ns : List Int} (h : ∀ n ∈ ns, n = 0) : ns.sum = 0 := by
  induction ns with
  | nil => rfl
  | cons n ns ih =>
    rw [List.sum_cons, h n (by simp), ih fun m hm => h m (by simp [hm])]
    rfl
theorem unlock_same {H K1 : Hp} {D : Addr} {od : Obj} {kvs : List (Key × V)} (hD : H D = some (.dK kvs)) (sm : Same (upd H D (.frz od (.dK kvs))) K1) : Same H (upd K1 D (.dK kvs)) := fun b o e => by
  by_cases c : b = D
  · rw [c, hD] at e
    rw [c, upd_same]
    exact e
  · rw [upd_ne c]
    exact sm _ _ (by rw [upd_ne c]; exact e)
theorem DLb.lock {ok : Addr → Prop} {H : Hp} {D : Addr} {od : Obj} {kvs : List (Key × V)} {lib : Lib} {c : Nat} (h : DLb ok H kvs lib c) (hk : ∀ x, ok x → x ≠ D) : DLb ok (upd H D (.frz od (.dK kvs))) kvs lib c := h.to fun x kd xs k e => ⟨k, by rw [upd_ne (hk x k)]; exact e⟩
/-- both ways of a test at once -/
theorem or_pull {t u : TT} {σ : L2.St} {H : Hp} {Q : Bool → Hp → Prop} (C : Bool → Hp → Prop) (h1 : (∀ b H', C b H' → Q b H') → tOr t u σ H Q) (h2 : ∀ b H', C b H' → Q b H') : tOr t u σ H Q := h1 h2
end Ft
set_option Elab.async false
set_option linter.all false
set_option maxRecDepth 100000
set_option maxHeartbeats 2000000
set_option pp.maxSteps 5000
set_option pp.deepTerms.threshold 10
namespace Ft
open PySem L2
/-- pairs of a name and its rows -/
def PrD (ok : Addr → Prop) (H : Hp) (p : Addr) (m : Str × List Row) : Prop := ∃ v, H p = some (.tup [.str m.1, v]) ∧ DRows ok H v m.2
theorem PrD.to {ok ok' : Addr → Prop} {H H' : Hp} {p : Addr} {m : Str × List Row} (h : PrD ok H p m) (k : Keep ok ok' H H') (hp : ∀ xs, H p = some (.tup xs) → H' p = some (.tup xs)) : PrD ok' H' p m := by
  obtain ⟨v, h1, h2⟩ := h
  exact ⟨v, hp _ h1, h2.to k⟩
theorem mapfst (ks : List Str) : (ks.map fun z => (z, ([] : List Row))).map (·.1) = ks := by
  rw [List.map_map]
  exact List.map_id ks
theorem dict_of {K : PySem.W.Frag} {ok : Addr → Prop} {H : Hp} {ps : List Addr} {lib : Lib} {c : Nat} (h : Paired (PrD ok H) ps lib) (nd : (lib.map (·.1)).Nodup) (ho : ∀ m ∈ lib, m.2.length ≤ c ∧ ∀ r ∈ m.2, RowOk 3 false r) :
    ∃ kvs : List (Key × V), Paired (fun p kv => SqT K H p [kV kv.1, kv.2]) ps kvs ∧ DLb ok H kvs lib c ∧ mergeK [] kvs = kvs := by
  obtain ⟨kvs, h1, h2⟩ : ∃ kvs : List (Key × V), Paired (fun p kv => SqT K H p [kV kv.1, kv.2]) ps kvs ∧ Paired (fun (kv : Key × V) (m : Str × List Row) => kv.1 = Sum.inr m.1 ∧ DRows ok H kv.2 m.2) kvs lib := by
    induction h with
    | nil => exact ⟨[], .nil, .nil⟩
    | @cons p m ps lib r t ih =>
      rw [List.map_cons, List.nodup_cons] at nd
      obtain ⟨kvs, a, b⟩ := ih nd.2 fun m hm => ho m (List.mem_cons_of_mem _ hm)
      obtain ⟨v, e1, e2⟩ := r
      exact ⟨(Sum.inr m.1, v) :: kvs, .cons (SqT.of e1) a, .cons ⟨rfl, e2⟩ b⟩
  have D : DLb ok H kvs lib c := ⟨h2, nd, ho⟩
  exact ⟨kvs, h1, D, mergeK_ndB (acc := []) (by rw [List.nil_append]; exact D.kvd)⟩
section
variable {P : PySem.Program} {w : World} {K : PySem.W.Frag} {mg : Str → Option Value} {base : Heap}
abbrev sLLibrary : Stmt := topS 48
theorem scLLibrary : FnScope ["_law_source_here", "_law_bound", "_law_words", "_law_found", "_law_one", "_law_k", "_law_plant", "_law_at", "_law_longest", "_law_word"] ["_law_source_here", "_law_bound"] (defScope sLLibrary) := ⟨rfl, rfl, rfl, by decide +kernel, rfl, by decide +kernel, by decide +kernel⟩
/-- the names are two or three of a, b, c -/
def NmsD (ks : List Str) : Prop := ks.length ≤ 3 ∧ 2 ≤ ks.length ∧ (∀ z ∈ ks, z ∈ abcD)
def spLLibraryS : Sp := fun vs H Q _ => ∃ (a : Addr) (n bd : Int), vs = [.ref a, .int bd] ∧ Src H a n ∧ n < 2 ^ 38 ∧ 0 ≤ bd ∧
  ∀ H' D kvs lib n', Fr (· ≠ a) H H' → Src H' a n' → n ≤ n' → n' ≤ n + 200 → H D = none → H' D = some (.dK kvs) → DLb (fun y => H y = none ∧ y ≠ D) H' kvs lib 13 → NmsD (lib.map (·.1)) → ((spotsL lib).length : Int) ≤ bd → Q (.ref D) H'
theorem ok_LLibrary {f : Addr} {fd : FuncData} {k : Nat} (F : Fun K "_law_library" "_law_library" sLLibrary f fd) (B : Bl mg) (hk : 7 ≤ k) (gLDraw : Own P w K mg base 1 "_law_draw" ["_law_source_here", "_law_many"] spLDraw) (gLPick : Own P w K mg base 2 "_law_pick" ["_law_source_here", "_law_some_here"] spLPick) (gLShuffled : Own P w K mg base 2 "_law_shuffled" ["_law_source_here", "_law_things"] spLShuffled)
    (gLPlants : Own P w K mg base 2 "_law_plants" ["_law_p", "_law_q", "_law_r"] spLPlants) (gLSomeRow : Own P w K mg base 3 "_law_some_row" ["_law_source_here", "_law_words"] spLSomeRow) (gLPlaces : Own P w K mg base 6 "_law_places" ["_law_library_here"] spLPlaces) (gLSize : Own P w K mg base 5 "_law_size" ["_law_rows"] (spLSize 3)) : FnOk P w K mg base CX0 (k + 1) f fd ["_law_source_here", "_law_bound"] spLLibraryS := by
  refine F.ok scLLibrary (fun vs H Q E h => ?_) (fun cdv A outer s H vs Q E hr h => ?_)
  · obtain ⟨a, n, bd, rfl, _⟩ := h
    rfl
  obtain ⟨a, n, bd, rfl, sr, hn, hbd, q⟩ := h
  refine ⟨_, (pss_cons (ps_set (i := 2) scLLibrary.nd rfl (by first | exact Or.inl rfl | exact Or.inr rfl) (pe_own gLShuffled (hr.mono (by omega)) (by rfl) (pa_cons (pv 0) (pa_cons (pe_lst (pa_cons pe_str (pa_cons pe_str (pa_cons pe_str pa_nil)))) pa_nil))))
      (pss_cons (ps_set (i := 3) scLLibrary.nd rfl (by first | exact Or.inl rfl | exact Or.inr rfl) (pe_callTy (call_dictP rfl) (by rfl) B.dict (by decide +kernel) (pa_cons (pe_lc (own := [("_law_one", 4)]) (g := (gName 4)) (tt := tYes) (by rfl) scLLibrary.nd (pi_list (pe_callB (cr_sortedSL hr.units) (by rfl) B.sorted (by decide +kernel) (pa_cons (pv 2) pa_nil))) (blkOk_by (own := [("_law_one", 4)]) (N := ["_law_source_here", "_law_bound", "_law_words", "_law_found", "_law_one", "_law_k", "_law_plant", "_law_at", "_law_longest", "_law_word"]) (sc := defScope sLLibrary) (by decide +kernel)) (fun _ _ _ _ _ => (pg_name (i := 4) scLLibrary.nd rfl (by first | exact Or.inl rfl | exact Or.inr rfl))) (fun _ _ _ _ _ => pts_nil) (fun _ _ _ _ _ => (pe_tup (pa_cons (pv 4) (pa_cons (pe_lst pa_nil) pa_nil))))) pa_nil)))
      (pss_cons (ps_for PassesOwn.never rfl (pi_range1 (by rfl) B.range (pa_cons (pe_op op_add pe_int (pe_own gLDraw (hr.mono (by omega)) (by rfl) (pa_cons (pv 0) (pa_cons pe_int pa_nil)))) pa_nil)) (pg_name (i := 5) scLLibrary.nd rfl (by first | exact Or.inl rfl | exact Or.inr rfl)) (pss_cons (ps_set (i := 6) scLLibrary.nd rfl (by first | exact Or.inl rfl | exact Or.inr rfl) (pe_own gLPick (hr.mono (by omega)) (by rfl) (pa_cons (pv 0) (pa_cons (pe_own gLPlants (hr.mono (by omega)) (by rfl) (pa_cons (pe_ix ix_list (pv 2) pe_int (fun _ _ => rfl)) (pa_cons (pe_ix ix_list (pv 2) pe_int (fun _ _ => rfl)) (pa_cons (pe_ix ix_list (pv 2) pe_int (fun _ _ => rfl)) pa_nil)))) pa_nil))))
      (pss_one (ps_set (i := 3) scLLibrary.nd rfl (by first | exact Or.inl rfl | exact Or.inr rfl) (pe_callTy (call_dictP rfl) (by rfl) B.dict (by decide +kernel) (pa_cons (pe_lock (pe_lc (own := [("_law_one", 4)]) (g := (gName 4)) (tt := tYes) (by rfl) scLLibrary.nd (pi_keys (pv 3)) (blkOk_by (own := [("_law_one", 4)]) (N := ["_law_source_here", "_law_bound", "_law_words", "_law_found", "_law_one", "_law_k", "_law_plant", "_law_at", "_law_longest", "_law_word"]) (sc := defScope sLLibrary) (by decide +kernel)) (fun _ _ _ _ _ => (pg_name (i := 4) scLLibrary.nd rfl (by first | exact Or.inl rfl | exact Or.inr rfl))) (fun _ _ _ _ _ => pts_nil) (fun _ _ _ _ _ => (pe_tup (pa_cons (pv 4) (pa_cons (pe_op op_cat (pe_dget (hu_of hr) (pv 3) (pv 4) (fun _ _ => rfl)) (pe_dget (hu_of hr) (pv 6) (pv 4) (fun _ _ => rfl))) pa_nil)))))) pa_nil))))))
      (pss_cut (ps_if (PW.pt (pw_and (pt_cmpR (opK (K := K) rEqL0 (op_eqL0 hr.units0) rfl) (pe_dget (hu_of hr) (pv 3) (pe_ix ix_list (pv 2) pe_int (fun _ _ => rfl)) (fun _ _ => rfl)) (pe_lst pa_nil) (nomark _)) (pw_and1 (pt_cmpR op_eq (pe_own gLDraw (hr.mono (by omega)) (by rfl) (pa_cons (pv 0) (pa_cons pe_int pa_nil))) pe_int (nomark _))))) (pss_one (ps_expr (pe_dpop1 (pv 3) (pe_ix ix_list (pv 2) pe_int (fun _ _ => rfl)) ⟨by rfl, by rfl, by rfl, by rfl⟩))) pss_nil)
      (pss_cons (ps_for PassesOwn.never rfl (pi_range1 (by rfl) B.range (pa_cons (pe_own gLDraw (hr.mono (by omega)) (by rfl) (pa_cons (pv 0) (pa_cons pe_int pa_nil))) pa_nil)) (pg_name (i := 5) scLLibrary.nd rfl (by first | exact Or.inl rfl | exact Or.inr rfl)) (pss_cons (ps_set (i := 4) scLLibrary.nd rfl (by first | exact Or.inl rfl | exact Or.inr rfl) (pe_own gLPick (hr.mono (by omega)) (by rfl) (pa_cons (pv 0) (pa_cons (pe_callB (call_sortedDL rfl hr.units) (by rfl) B.sorted (by decide +kernel) (pa_cons (pv 3) pa_nil)) pa_nil))))
      (pss_cons (ps_set (i := 7) scLLibrary.nd rfl (by first | exact Or.inl rfl | exact Or.inr rfl) (pe_own gLDraw (hr.mono (by omega)) (by rfl) (pa_cons (pv 0) (pa_cons (pe_op op_add (pe_callB call_len_seq (by rfl) B.len (by decide +kernel) (pa_cons (pe_dget (hu_of hr) (pv 3) (pv 4) (fun _ _ => rfl)) pa_nil)) pe_int) pa_nil))))
      (pss_one (ps_dput (hu_of hr) (pv 3) (pv 4) (pe_op op_cat (pe_op op_cat (pe_slice sl_list (pe_dget (hu_of hr) (pv 3) (pv 4) (fun _ _ => rfl)) po_none (po_some (pv 7))) (pe_lst (pa_cons (pe_own gLSomeRow (hr.mono (by omega)) (by rfl) (pa_cons (pv 0) (pa_cons (pv 2) pa_nil))) pa_nil))) (pe_slice sl_list (pe_dget (hu_of hr) (pv 3) (pv 4) (fun _ _ => rfl)) (po_some (pv 7)) po_none)) rfl)))))
      (pss_cons (ps_while PassesOwn.never (PW.pt (pw_or (pt_cmpR op_gt (pe_callB call_len (by rfl) B.len (by decide +kernel) (pa_cons (pe_own gLPlaces (hr.mono (by omega)) (by rfl) (pa_cons (pv 3) pa_nil)) pa_nil)) (pv 1) (nomark _)) (pw_or1 (pt_cmpR op_gt (pe_callB (cr_sum rfl) (by rfl) B.sum (by decide +kernel) (pa_cons (pe_lock (pe_lc (own := [("_law_one", 4)]) (g := (gName 4)) (tt := tYes) (by rfl) scLLibrary.nd (pi_keys (pv 3)) (blkOk_by (own := [("_law_one", 4)]) (N := ["_law_source_here", "_law_bound", "_law_words", "_law_found", "_law_one", "_law_k", "_law_plant", "_law_at", "_law_longest", "_law_word"]) (sc := defScope sLLibrary) (by decide +kernel)) (fun _ _ _ _ _ => (pg_name (i := 4) scLLibrary.nd rfl (by first | exact Or.inl rfl | exact Or.inr rfl))) (fun _ _ _ _ _ => pts_nil) (fun _ _ _ _ _ => (pe_own gLSize (hr.mono (by omega)) (by rfl) (pa_cons (pe_dget (hu_of hr) (pv 3) (pv 4) (fun _ _ => rfl)) pa_nil))))) pa_nil)) pe_int (nomark _))))) (pss_cons (ps_set (i := 8) scLLibrary.nd rfl (by first | exact Or.inl rfl | exact Or.inr rfl) (pe_callB (cr_max rfl) (by rfl) B.max (by decide +kernel) (pa_cons (pe_lock (pe_lc (own := [("_law_one", 4)]) (g := (gName 4)) (tt := tYes) (by rfl) scLLibrary.nd (pi_keys (pv 3)) (blkOk_by (own := [("_law_one", 4)]) (N := ["_law_source_here", "_law_bound", "_law_words", "_law_found", "_law_one", "_law_k", "_law_plant", "_law_at", "_law_longest", "_law_word"]) (sc := defScope sLLibrary) (by decide +kernel)) (fun _ _ _ _ _ => (pg_name (i := 4) scLLibrary.nd rfl (by first | exact Or.inl rfl | exact Or.inr rfl))) (fun _ _ _ _ _ => pts_nil) (fun _ _ _ _ _ => (pe_callB (callK (K := K) rLenS call_len_seq rfl) (by rfl) B.len (by decide +kernel) (pa_cons (pe_dget (hu_of hr) (pv 3) (pv 4) (fun _ _ => rfl)) pa_nil))))) pa_nil)))
      (pss_cons (ps_set (i := 4) scLLibrary.nd rfl (by first | exact Or.inl rfl | exact Or.inr rfl) (pe_callB (callK (K := K) rMinS (cr_minS rfl hr.units) rfl) (by rfl) B.min (by decide +kernel) (pa_cons (pe_lock (pe_lc (own := [("_law_word", 9)]) (g := (gName 9)) (by rfl) scLLibrary.nd (pi_keys (pv 3)) (blkOk_by (own := [("_law_word", 9)]) (N := ["_law_source_here", "_law_bound", "_law_words", "_law_found", "_law_one", "_law_k", "_law_plant", "_law_at", "_law_longest", "_law_word"]) (sc := defScope sLLibrary) (by decide +kernel)) (fun _ _ _ _ _ => (pg_name (i := 9) scLLibrary.nd rfl (by first | exact Or.inl rfl | exact Or.inr rfl))) (fun _ _ _ _ _ => (pts_one (pt_cmpR op_eq (pe_callB (callK (K := K) rLenS call_len_seq rfl) (by rfl) B.len (by decide +kernel) (pa_cons (pe_dget (hu_of hr) (pv 3) (pv 9) (fun _ _ => rfl)) pa_nil)) (pv 8) (nomark _)))) (fun _ _ _ _ _ => (pv 9)))) pa_nil)))
      (pss_one (ps_dput (hu_of hr) (pv 3) (pv 4) (pe_slice sl_list (pe_dget (hu_of hr) (pv 3) (pv 4) (fun _ _ => rfl)) po_none (po_some (pe_un un_neg pe_int))) rfl)))))
      (pss_one (ps_ret (pv 3))))))))), ?_⟩
  refine ⟨_, rfl, (by show 3 ≤ sizeLine; decide), fun wl nwl => ?_⟩
  have s1 : Same H (upd H wl (.lst [.str "a", .str "b", .str "c"])) := Same.new nwl
  have hwl : (upd H wl (.lst [.str "a", .str "b", .str "c"])) wl = some (.lst [.str "a", .str "b", .str "c"]) := upd_same
  have sr1 := sr.new nwl (o := .lst [.str "a", .str "b", .str "c"])
  generalize upd H wl (.lst [.str "a", .str "b", .str "c"]) = H1 at *
  refine ⟨a, wl, n, _, rfl, sr1, by omega, sr.nn nwl, hwl, by decide, fun H2 l ys n2 f2 sr2 n20 n21 nl hl hp => ?_⟩
  have n21' : n2 ≤ n + 3 := n21
  obtain ⟨z0, z1, z2, rfl⟩ : ∃ z0 z1 z2, ys = [.str z0, .str z1, .str z2] := by
    have l3 := hp.length_eq
    have m : ∀ y ∈ ys, ∃ z, y = .str z := fun y hy => by
      have := hp.mem_iff.mp hy
      simp only [List.mem_cons, List.not_mem_nil, or_false] at this
      rcases this with rfl | rfl | rfl <;> exact ⟨_, rfl⟩
    match ys, l3 with
    | [y0, y1, y2], _ =>
      obtain ⟨z0, rfl⟩ := m y0 (by simp)
      obtain ⟨z1, rfl⟩ := m y1 (by simp)
      obtain ⟨z2, rfl⟩ := m y2 (by simp)
      exact ⟨_, _, _, rfl⟩
  have hperm : [z0, z1, z2].Perm abcD := by
    have := hp.map (fun v : V => match v with | .str z => z | _ => Str.empty)
    exact this
  refine (?_ : tSeq _ _ _ _ _)
  have p0 : (L2.start ["_law_source_here", "_law_bound", "_law_words", "_law_found", "_law_one", "_law_k", "_law_plant", "_law_at", "_law_longest", "_law_word"] [V.ref a, V.int bd]).set 2 (some (V.ref l)) = [some (.ref a), some (.int bd), some (.ref l), none, none, none, none, none, none, none] := rfl
  dsimp only
  rw [p0]
  refine ⟨_, rfl, l, [z0, z1, z2], rfl, SqL.of hl, fun ks p hpk _ npk => ⟨p, rfl, ⟨_, SqL.of upd_same⟩, fun L nL => ?_⟩⟩
  have hks : ks.Perm abcD := hpk.trans hperm
  have ndk : ks.Nodup := hks.nodup_iff.mpr (by decide)
  have lks : ks.length = 3 := hks.length_eq
  have sp : Same H2 (upd H2 p (.lst (ks.map V.str))) := Same.new npk
  have hpp : (upd H2 p (.lst (ks.map V.str))) p = some (.lst (ks.map V.str)) := upd_same
  have sr3 := sr2.new npk (o := .lst (ks.map V.str))
  generalize upd H2 p (.lst (ks.map V.str)) = H3 at *
  have f03 : Fr (· ≠ a) H H3 := ((Fr.same s1).trans f2).trans (Fr.same sp)
  have n03 : ∀ {G : Hp}, Same H3 G → ∀ y, G y = none → H y = none ∧ y ≠ a := fun {G} sG y hy => by
    have y3 := Same.free sG hy
    have ya := sr3.nn y3
    exact ⟨f03.free ya y3, ya⟩
  have rdL : ∀ i z, ks[i]? = some z → ((ks.map fun z => (z, ([] : List Row)))[i]? = some (z, [])) := fun i z h => by rw [List.getElem?_map, h]; rfl
  refine lc_it walk_list (fun i H' => Same H3 H' ∧ ∃ ps : List Addr, H' L = some (.lst (ps.map V.ref)) ∧ Paired (fun p m => p ≠ L ∧ PrD (fun y => H y = none ∧ y ≠ L) H' p m) ps ((ks.map fun z => (z, ([] : List Row))).take i))
    ⟨Same.new nL, [], upd_same, .nil⟩ (fun i H' _ ⟨sm, _⟩ => SqL.of (sm _ _ hpp)) ?_ ?_
  · rintro i x G1 G2 hi ⟨sm, ps, hL, hps⟩ ⟨rfl, hx⟩
    obtain ⟨z, hz, rfl⟩ : ∃ z, ks[i]? = some z ∧ x = .str z := by
      rw [List.getElem?_map] at hx
      obtain ⟨z, h1, h2⟩ := Option.map_eq_some_iff.mp hx
      exact ⟨z, h1, h2.symm⟩
    refine ⟨rfl, _, rfl, Nat.zero_le _, fun e ne => ⟨(by show 2 ≤ sizeLine; decide), fun t nt => ?_⟩⟩
    have se : Same G2 (upd G2 e (.lst [])) := Same.new ne
    have he : (upd G2 e (.lst [])) e = some (.lst []) := upd_same
    have eL : e ≠ L := fun z => by rw [z, hL] at ne; cases ne
    have eH := n03 sm e ne
    generalize upd G2 e (.lst []) = G3 at *
    have st : Same G3 (upd G3 t (.tup [.str z, .ref e])) := Same.new nt
    have ht : (upd G3 t (.tup [.str z, .ref e])) t = some (.tup [.str z, .ref e]) := upd_same
    have tL : t ≠ L := fun z => by rw [z, se _ _ hL] at nt; cases nt
    generalize upd G3 t (.tup [.str z, .ref e]) = G4 at *
    have s24 := Same.trans se st
    have lps : ps.length ≤ 3 := by
      have e2 := paired_len hps
      rw [List.length_take, List.length_map] at e2
      omega
    have kL : Keep (fun y => H y = none ∧ y ≠ L) (fun y => H y = none ∧ y ≠ L) G4 (upd G4 L (.lst (ps.map V.ref ++ [.ref t]))) := fun x kd xs k e => ⟨k, by rw [upd_ne k.2]; exact e⟩
    refine ⟨_, s24 _ _ hL, small (by rw [List.length_map]; omega), Same.upN (Same.trans sm s24) nL, ps ++ [t], by rw [upd_same, List.map_append]; rfl, ?_⟩
    rw [List.take_add_one, rdL i z hz]
    refine paired_app ⟨tL, .ref e, by rw [upd_ne tL]; exact ht, e, [], rfl, ⟨eH.1, eL⟩, by rw [upd_ne eL]; exact st _ _ he, .nil⟩ (paired_imp hps fun p m r => ⟨r.1, r.2.to ((Keep.fr (Fr.same s24) fun _ k => k).trans kL) fun xs h => by rw [upd_ne r.1]; exact s24 _ _ h⟩)
  · rintro G1 ⟨sm, ps, hL, hps⟩
    rw [List.length_map, show ks.length = (ks.map fun z => (z, ([] : List Row))).length from (List.length_map _).symm, List.take_length] at hps
    obtain ⟨kvs, k1, k2, k3⟩ := dict_of (K := K) (c := 0) (paired_imp hps fun _ _ r => r.2) (by rw [mapfst]; exact ndk) (fun m hm => by
      obtain ⟨z, _, rfl⟩ := List.mem_map.mp hm
      exact ⟨Nat.le_refl _, fun r hr => by cases hr⟩)
    refine ⟨L, ps, kvs, rfl, SqL.of hL, k1, fun D nD => ?_⟩
    rw [k3]
    have nDH := n03 sm D nD
    have DL : D ≠ L := fun z => by rw [z, hL] at nD; cases nD
    have sD : Same G1 (upd G1 D (.dK kvs)) := Same.new nD
    have hD : (upd G1 D (.dK kvs)) D = some (.dK kvs) := upd_same
    have f1D : Fr (· ≠ a) H (upd G1 D (.dK kvs)) := (f03.trans (Fr.same sm)).trans (Fr.same sD)
    have srD : Src (upd G1 D (.dK kvs)) a n2 := (sr3.fr (ok := fun _ => True) (Fr.same sm) trivial).new nD
    have DLk : DLb (fun y => H y = none ∧ y ≠ D) (upd G1 D (.dK kvs)) kvs (ks.map fun z => (z, ([] : List Row))) 0 := k2.to fun x kd xs k e => ⟨⟨k.1, fun z => by rw [z, nD] at e; cases e⟩, sD _ _ e⟩
    have hl1 := sD _ _ (sm _ _ (sp _ _ hl))
    have nlH : H l = none := Same.free s1 nl
    have nla : l ≠ a := sr.nn nlH
    generalize upd G1 D (.dK kvs) = G5 at *
    have lkn : (ks.map fun z => (z, ([] : List Row))).map (·.1) = ks := mapfst ks
    generalize (ks.map fun z => (z, ([] : List Row))) = lib0 at DLk lkn
    clear hps k1 k2 k3
    refine ⟨_, rfl, a, 2, n2, rfl, srD, by omega, by decide, by decide, fun G6 j f6 sr6 j0 j1 => ⟨1, j, rfl, rfl, 1 + j, rfl, by omega, by omega, ?_⟩⟩
    refine for_it (walk_range (lo := 0) (n := (1 + j).toNat)) (fun i σ H' => ∃ (D : Addr) (kvs : List (Key × V)) (lib : Lib) (v5 v6 : Option V) (n' : Int), σ = [some (.ref a), some (.int bd), some (.ref l), some (.ref D), none, v5, v6, none, none, none] ∧ Fr (· ≠ a) H H' ∧ Src H' a n' ∧ n ≤ n' ∧ n' ≤ n + 4 + i ∧ H D = none ∧ H' D = some (.dK kvs) ∧ DLb (fun y => H y = none ∧ y ≠ D) H' kvs lib (5 * i) ∧ lib.map (·.1) = ks ∧ H' l = some (.lst [.str z0, .str z1, .str z2]))
      ⟨D, kvs, lib0, none, none, n2 + 1, rfl, f1D.trans f6, sr6, by omega, by omega, nDH.1, f6 _ _ nDH.2 hD, DLk.to (Keep.fr (f6.mono fun b h => sr.nn h.1) fun _ k => k), lkn, f6 _ _ nla hl1⟩ (fun _ _ _ _ _ => trivial) ?_ ?_
    · rintro i x σ G7 G8 hi ⟨D, kvs, lib, v5, v6, n7, rfl, f7, sr7, n70, n71, nD7, hD7, dl7, lk7, hl7⟩ ⟨rfl, rfl⟩
      have lz : ∀ z ∈ [z0, z1, z2], z.length ≤ 8 := fun z hz => by
        have : ∀ z ∈ abcD, z.length ≤ 8 := by decide
        exact this z (hperm.mem_iff.mp hz)
      have ndz : [z0, z1, z2].Nodup := hperm.nodup_iff.mpr (by decide)
      refine ⟨_, rfl, _, rfl, l, _, 0, _, rfl, rfl, SqL.of hl7, rfl, _, rfl, l, _, 1, _, rfl, rfl, SqL.of hl7, rfl, _, rfl, l, _, 2, _, rfl, rfl, SqL.of hl7, rfl, z0, z1, z2, rfl, ?_, ?_, ?_, lz z0 (by simp), lz z1 (by simp), lz z2 (by simp), fun G9 pl xs s9 npl hpl hxs => ?_⟩
      · exact fun e => by rw [e] at ndz; simp at ndz
      · exact fun e => by rw [e] at ndz; simp at ndz
      · exact fun e => by rw [e] at ndz; simp at ndz
      have lxs : xs.length = 16 := paired_len hxs
      have sr9 := sr7.fr (ok := fun _ => True) (Fr.same s9) trivial
      refine ⟨a, pl, xs, n7, rfl, sr9, by omega, sr7.nn npl, hpl, (fun e => by rw [e] at lxs; cases lxs), by omega, fun GA x fA srA hx => ?_⟩
      obtain ⟨pl0, hpl0, hpa⟩ := paired_mem hxs hx
      have fH9 : Fr (· ≠ a) H G9 := f7.trans (Fr.same s9)
      have n9 : ∀ y, G8 y = none → H y = none ∧ y ≠ a := fun y hy => ⟨f7.free (sr7.nn hy) hy, sr7.nn hy⟩
      have hpa2 : PlantAt (fun y => H y = none ∧ y ≠ a) GA z0 z1 z2 x pl0 := hpa.to fun b o k _ e => ⟨n9 b k, fA b o (n9 b k).2 e⟩
      obtain ⟨Pd, l1, l2, l3, r1, r2, r3, rfl, okP, hPd, rfl, t1, t2, t3⟩ := hpa2
      have plok := plR_ok hperm _ hpl0
      have DP : Pd ≠ D := fun e => by
        obtain ⟨pl1, hpl1, hpa1⟩ := paired_mem hxs hx
        obtain ⟨Pd', _, _, _, _, _, _, e1, okP', _⟩ := hpa1
        have := V.ref.inj e1
        rw [← this, e, hD7] at okP'
        cases okP'
      have Da : D ≠ a := fun e => by rw [e] at nD7; exact sr.nn nD7 rfl
      have fA7 : Fr (· ≠ a) G8 GA := (Fr.same s9).trans fA
      have hDA : GA D = some (.dK kvs) := fA7 _ _ Da hD7
      have dlA := dl7.to (Keep.fr (fA7.mono fun b h => sr.nn h.1) fun _ k => k)
      have hlA := fA7 _ _ nla hl7
      have frA : Fr (· ≠ a) H GA := f7.trans fA7
      -- the new dict
      refine ⟨D, .dK kvs, hDA, trivial, fun od => ?_⟩
      have hDG : (upd GA D (.frz od (.dK kvs))) D = some (.frz od (.dK kvs)) := upd_same
      have keepG : ∀ b o, b ≠ D → GA b = some o → (upd GA D (.frz od (.dK kvs))) b = some o := fun b o h e => by rw [upd_ne h]; exact e
      have backG : ∀ y, (upd GA D (.frz od (.dK kvs))) y = none → GA y = none ∧ y ≠ D := fun y e => by
        by_cases c : y = D
        · rw [c, upd_same] at e; cases e
        · rw [upd_ne c] at e; exact ⟨e, c⟩
      have dlG := dlA.to (H' := upd GA D (.frz od (.dK kvs))) (ok' := fun y => H y = none ∧ y ≠ D) fun x kd xs k e => ⟨k, keepG _ _ k.2 e⟩
      have tG : ∀ {v : V} {rs : List Row}, (∀ r ∈ rs, RowOk 3 false r) → ThL (fun y => H y = none ∧ y ≠ a) GA 6 v (.sq (rs.map (toT 3))) → DRows (fun y => H y = none ∧ y ≠ D) (upd GA D (.frz od (.dK kvs))) v rs := fun {v rs} ho h => (DRows.th h ho).to fun x kd xs k e => by
        have xD : x ≠ D := fun z => by rw [z, hDA] at e; cases kd <;> cases e
        exact ⟨⟨k.1, xD⟩, by rw [upd_ne xD]; exact e⟩
      have hPG := keepG _ _ DP hPd
      have d1 := tG (plok r1 (by simp)).2 t1
      have d2 := tG (plok r2 (by simp)).2 t2
      have d3 := tG (plok r3 (by simp)).2 t3
      have pick3 : ∀ z ∈ ks, ∃ v rs, valV ([((Sum.inr z0 : Key), l1), (Sum.inr z1, l2), (Sum.inr z2, l3)]) (Sum.inr z) = some v ∧ DRows (fun y => H y = none ∧ y ≠ D) (upd GA D (.frz od (.dK kvs))) v rs ∧ rs = (if z = z0 then r1 else if z = z1 then r2 else r3) ∧ rs.length ≤ 5 ∧ ∀ r ∈ rs, RowOk 3 false r := fun z hz => by
        have hz3 := hpk.mem_iff.mp hz
        by_cases e0 : z = z0
        · exact ⟨l1, r1, by rw [valV_pos (by rw [e0])], d1, by rw [if_pos e0], plok r1 (by simp)⟩
        · by_cases e1 : z = z1
          · exact ⟨l2, r2, by rw [valV_neg (fun h => e0 (Sum.inr.inj h).symm), valV_pos (by rw [e1])], d2, by rw [if_neg e0, if_pos e1], plok r2 (by simp)⟩
          · have e2 : z = z2 := by
              simp only [List.mem_cons, List.not_mem_nil, or_false] at hz3
              rcases hz3 with h | h | h
              · exact absurd h e0
              · exact absurd h e1
              · exact h
            exact ⟨l3, r3, by rw [valV_neg (fun h => e0 (Sum.inr.inj h).symm), valV_neg (fun h => e1 (Sum.inr.inj h).symm), valV_pos (by rw [e2])], d3, by rw [if_neg e0, if_neg e1], plok r3 (by simp)⟩
      have nG : ∀ y, (upd GA D (.frz od (.dK kvs))) y = none → H y = none ∧ y ≠ D := fun y hy => ⟨frA.free (srA.nn (backG y hy).1) (backG y hy).1, (backG y hy).2⟩
      generalize upd GA D (.frz od (.dK kvs)) = G at *
      refine ⟨_, rfl, D, od, rfl, .inl ⟨kvs, hDG, fun L nL => ?_⟩⟩
      have lkv : kvs.length = lib.length := paired_len dlG.l
      have llib : lib.length = 3 := by rw [← List.length_map (f := (·.1)) (as := lib), lk7, lks]
      have LD : L ≠ D := fun e => by rw [e, hDG] at nL; cases nL
      generalize hlib2 : (lib.map fun m => (m.1, m.2 ++ (if m.1 = z0 then r1 else if m.1 = z1 then r2 else r3))) = lib2
      have lib2at : ∀ i z rs, lib[i]? = some (z, rs) → lib2[i]? = some (z, rs ++ (if z = z0 then r1 else if z = z1 then r2 else r3)) := fun i z rs h => by rw [← hlib2, List.getElem?_map, h]; rfl
      have lk2 : lib2.map (·.1) = ks := by
        rw [← hlib2, List.map_map, ← lk7]
        rfl
      refine lc_it walk_keys (fun i H' => Same G H' ∧ ∃ ps : List Addr, H' L = some (.lst (ps.map V.ref)) ∧ Paired (fun p m => p ≠ L ∧ p ≠ D ∧ PrD (fun y => H y = none ∧ y ≠ D ∧ y ≠ L) H' p m) ps (lib2.take i))
        ⟨Same.new nL, [], upd_same, .nil⟩ (fun i H' _ ⟨sm, _⟩ => sm _ _ hDG) ?_ ?_
      · rintro i2 x K1 K2 hi2 ⟨sm, ps, hL, hps⟩ ⟨rfl, kx, vx, hkv, rfl⟩
        obtain ⟨z, rs, rfl, hm, hr, hv⟩ := dlG.ix hkv
        have hzk : z ∈ ks := by rw [← lk7]; exact List.mem_map.mpr ⟨_, List.mem_of_getElem? hm, rfl⟩
        obtain ⟨v2, rs2, hv2, hr2, ers2, lrs2, ok2⟩ := pick3 z hzk
        obtain ⟨la, xa, rfl, oka, hla, hxa⟩ := hr
        obtain ⟨lb, xb, rfl, _, hlb, hxb⟩ := hr2
        have hrs : rs.length ≤ 5 * i := (dlG.o _ (List.mem_of_getElem? hm)).1
        have la1 := paired_len hxa
        have lb1 := paired_len hxb
        refine ⟨rfl, _, rfl, _, rfl, _, rfl, D, _, rfl, .inl ⟨kvs, Sum.inr z, .inr ⟨_, sm _ _ hDG⟩, rfl, hv.symm⟩, _, rfl, _, rfl, Pd, _, rfl, .inl ⟨_, Sum.inr z, .inl (sm _ _ hPG), rfl, hv2.symm⟩, la, lb, xa, xb, rfl, rfl, sm _ _ hla, sm _ _ hlb, smallE (by omega), fun e ne => ⟨(by show 2 ≤ sizeLine; decide), fun t nt => ?_⟩⟩
        have se : Same K2 (upd K2 e (.lst (xa ++ xb))) := Same.new ne
        have he : (upd K2 e (.lst (xa ++ xb))) e = some (.lst (xa ++ xb)) := upd_same
        have eL : e ≠ L := fun z => by rw [z, hL] at ne; cases ne
        have eH := nG e (Same.free sm ne)
        generalize upd K2 e (.lst (xa ++ xb)) = K3 at *
        have st : Same K3 (upd K3 t (.tup [kV (Sum.inr z), .ref e])) := Same.new nt
        have ht : (upd K3 t (.tup [kV (Sum.inr z), .ref e])) t = some (.tup [kV (Sum.inr z), .ref e]) := upd_same
        have tL : t ≠ L := fun z => by rw [z, se _ _ hL] at nt; cases nt
        have tD := (nG t (Same.free sm (Same.free se nt))).2
        generalize upd K3 t (.tup [kV (Sum.inr z), .ref e]) = K4 at *
        have s24 := Same.trans se st
        have lps : ps.length ≤ 3 := by
          have e2 := paired_len hps
          have l2 : lib2.length = 3 := by rw [← List.length_map (f := (·.1)) (as := lib2), lk2, lks]
          rw [List.length_take] at e2
          omega
        have kL : Keep (fun y => H y = none ∧ y ≠ D ∧ y ≠ L) (fun y => H y = none ∧ y ≠ D ∧ y ≠ L) K4 (upd K4 L (.lst (ps.map V.ref ++ [.ref t]))) := fun x kd xs k e => ⟨k, by rw [upd_ne k.2.2]; exact e⟩
        have kG : Keep (fun y => H y = none ∧ y ≠ D) (fun y => H y = none ∧ y ≠ D ∧ y ≠ L) G (upd K4 L (.lst (ps.map V.ref ++ [.ref t]))) := fun x kd xs k e => ⟨⟨k.1, k.2, ne_of_none e nL⟩, by rw [upd_ne (ne_of_none e nL)]; exact s24 _ _ (sm _ _ e)⟩
        refine ⟨_, s24 _ _ hL, small (by rw [List.length_map]; omega), Same.upN (Same.trans sm s24) nL, ps ++ [t], by rw [upd_same, List.map_append]; rfl, ?_⟩
        rw [List.take_add_one, lib2at i2 z rs hm, ← ers2]
        exact paired_app ⟨tL, tD, .ref e, by rw [upd_ne tL]; exact ht, e, xa ++ xb, rfl, ⟨eH.1, eH.2, eL⟩, by rw [upd_ne eL]; exact st _ _ he, paired_append (paired_imp hxa fun _ _ q => q.to kG) (paired_imp hxb fun _ _ q => q.to kG)⟩ (paired_imp hps fun p m r => ⟨r.1, r.2.1, r.2.2.to ((Keep.fr (Fr.same s24) fun _ k => k).trans kL) fun xs h => by rw [upd_ne r.1]; exact s24 _ _ h⟩)
      · rintro K1 ⟨sm, ps, hL, hps⟩
        have l2 : lib2.length = kvs.length := by rw [lkv, ← List.length_map (f := (·.1)) (as := lib2), lk2, lks, llib]
        rw [← l2, List.take_length] at hps
        have kD : Keep (fun y => H y = none ∧ y ≠ D ∧ y ≠ L) (fun y => H y = none ∧ y ≠ D ∧ y ≠ L) K1 (upd K1 D (.dK kvs)) := fun x kd xs k e => ⟨k, by rw [upd_ne k.2.1]; exact e⟩
        have hL1 : (upd K1 D (.dK kvs)) L = some (.lst (ps.map V.ref)) := by rw [upd_ne LD]; exact hL
        have fK : Fr (· ≠ D) GA (upd K1 D (.dK kvs)) := fun b o h e => by rw [upd_ne h]; exact sm _ _ (keepG b o h e)
        have hK : (upd K1 D (.dK kvs)) D = some (.dK kvs) := upd_same
        have hps2 := paired_imp hps fun p m r => (r.2.2.to kD fun xs h => by rw [upd_ne r.2.1]; exact h : PrD (fun y => H y = none ∧ y ≠ D ∧ y ≠ L) (upd K1 D (.dK kvs)) p m)
        have nK : ∀ y, (upd K1 D (.dK kvs)) y = none → H y = none ∧ y ≠ D := fun y hy => by
          have c : y ≠ D := fun z => by rw [z, hK] at hy; cases hy
          rw [upd_ne c] at hy
          exact ⟨(nG y (Same.free sm hy)).1, c⟩
        refine ⟨sm _ _ hDG, ?_⟩
        generalize upd K1 D (.dK kvs) = K2 at *
        have lib2o : ∀ m ∈ lib2, m.2.length ≤ 5 * (i + 1) ∧ ∀ r ∈ m.2, RowOk 3 false r := fun m hm => by
          rw [← hlib2] at hm
          obtain ⟨m0, hm0, rfl⟩ := List.mem_map.mp hm
          have h0 := dl7.o m0 hm0
          have h1 : (if m0.1 = z0 then r1 else if m0.1 = z1 then r2 else r3).length ≤ 5 ∧ ∀ r ∈ (if m0.1 = z0 then r1 else if m0.1 = z1 then r2 else r3), RowOk 3 false r := by
            split
            · exact plok r1 (by simp)
            · split
              · exact plok r2 (by simp)
              · exact plok r3 (by simp)
          refine ⟨by rw [List.length_append]; omega, fun r hr => ?_⟩
          rcases List.mem_append.mp hr with h | h
          · exact h0.2 r h
          · exact h1.2 r h
        obtain ⟨kvs2, k1, k2, k3⟩ := dict_of (K := K) (c := 5 * (i + 1)) hps2 (by rw [lk2]; exact ndk) lib2o
        refine ⟨L, ps, kvs2, rfl, SqL.of hL1, k1, fun D2 nD2 => ?_⟩
        rw [k3]
        have nD2H := nK D2 nD2
        have sD2 : Same K2 (upd K2 D2 (.dK kvs2)) := Same.new nD2
        have hD2 : (upd K2 D2 (.dK kvs2)) D2 = some (.dK kvs2) := upd_same
        refine ⟨D2, kvs2, lib2, _, _, n7 + 1, rfl, fun b o h e => sD2 _ _ (fK b o (fun z => by rw [z, nD7] at e; cases e) (frA b o h e)), (srA.fr fK Da.symm).new nD2, by omega, by omega, nD2H.1, hD2, k2.to fun x kd xs k e => ⟨⟨k.1, fun z => by rw [z, nD2] at e; cases e⟩, sD2 _ _ e⟩, lk2, sD2 _ _ (fK _ _ (fun z => by rw [z, hDA] at hlA; cases hlA) hlA)⟩
    · rintro σ G7 ⟨D, kvs, lib, v5, v6, n7, rfl, f7, sr7, n70, n71, nD7, hD7, dl7, lk7, hl7⟩
      have j2 : 5 * (1 + j).toNat ≤ 10 := by omega
      have dl8 := dl7.le j2
      have n72 : n7 ≤ n + 6 := by omega
      clear dl7 n71
      have Da : D ≠ a := fun e => by rw [e] at nD7; exact sr.nn nD7 rfl
      have nmk : NmsD (lib.map (·.1)) := by
        rw [lk7]
        exact ⟨by omega, by omega, fun z hz => hks.mem_iff.mp hz⟩
      refine ⟨fun σ' H' => ∃ (kvs : List (Key × V)) (lib : Lib) (v5 v6 : Option V) (n' : Int), σ' = [some (.ref a), some (.int bd), some (.ref l), some (.ref D), none, v5, v6, none, none, none] ∧ Fr (· ≠ a) H H' ∧ Src H' a n' ∧ n ≤ n' ∧ n' ≤ n + 7 ∧ H' D = some (.dK kvs) ∧ DLb (fun y => H y = none ∧ y ≠ D) H' kvs lib 10 ∧ NmsD (lib.map (·.1)) ∧ H' l = some (.lst [.str z0, .str z1, .str z2]), ?_, ?_⟩
      · have mid0 : ∀ (G' : Hp) (n' : Int), Fr (· ≠ a) G7 G' → Src G' a n' → n ≤ n' → n' ≤ n + 7 → ∃ (kvs : List (Key × V)) (lib : Lib) (v5' v6' : Option V) (n' : Int), [some (.ref a), some (.int bd), some (.ref l), some (.ref D), none, v5, v6, none, none, none] = [some (.ref a), some (.int bd), some (.ref l), some (.ref D), none, v5', v6', none, none, none] ∧ Fr (· ≠ a) H G' ∧ Src G' a n' ∧ n ≤ n' ∧ n' ≤ n + 7 ∧ G' D = some (.dK kvs) ∧ DLb (fun y => H y = none ∧ y ≠ D) G' kvs lib 10 ∧ NmsD (lib.map (·.1)) ∧ G' l = some (.lst [.str z0, .str z1, .str z2]) := fun G' n' f s' h1 h2 =>
          ⟨kvs, lib, v5, v6, n', rfl, f7.trans f, s', h1, h2, f _ _ Da hD7, dl8.to (Keep.fr (f.mono fun b h => sr.nn h.1) fun _ k => k), nmk, f _ _ nla hl7⟩
        have hz2 : z2 ∈ lib.map (·.1) := by rw [lk7]; exact hpk.mem_iff.mpr (by simp)
        obtain ⟨v, rs, hm, hr, hv⟩ := dl8.get hz2
        obtain ⟨lv, xs, rfl, okl, hlv, hxs⟩ := hr
        refine ⟨_, rfl, _, rfl, l, _, 2, _, rfl, rfl, SqL.of hl7, rfl, D, _, rfl, .inl ⟨kvs, Sum.inr z2, .inl hD7, rfl, hv.symm⟩, Nat.zero_le _, fun e ne => ⟨lv, e, xs, rfl, rfl, SqL.of (Same.new ne _ _ hlv), SqL.of upd_same, _, rfl, ?_⟩⟩
        have se : Same G7 (upd G7 e (.lst [])) := Same.new ne
        have sre := sr7.new ne (o := .lst [])
        have hlE := se _ _ hl7
        have hDE := se _ _ hD7
        generalize upd G7 e (.lst []) = G8 at *
        cases hc : (xs.length == 0) with
        | false => exact iteF (mid0 G8 n7 (Fr.same se) sre (by omega) (by omega))
        | true =>
          refine iteT ⟨_, rfl, a, 2, n7, rfl, sre, by omega, by decide, by decide, fun G9 d f9 sr9 d0 d1 => ⟨rfl, _, rfl, ?_⟩⟩
          have f79 : Fr (· ≠ a) G7 G9 := (Fr.same se).trans f9
          cases hd : decide (V.int d = V.int 0) with
          | false => exact iteF (mid0 G9 (n7 + 1) f79 sr9 (by omega) (by omega))
          | true =>
            have hD9 := f9 _ _ Da hDE
            refine iteT ⟨_, rfl, D, rfl, .inl ⟨kvs, .inl hD9⟩, _, rfl, l, _, 2, _, rfl, rfl, SqL.of (f9 _ _ nla hlE), rfl, kvs, Sum.inr z2, _, hD9, rfl, hv, ?_⟩
            have dl9 := dl8.to (H' := upd G9 D (.dK (dropK kvs (Sum.inr z2)))) (ok' := fun y => H y = none ∧ y ≠ D) fun x kd xs k e => ⟨k, by rw [upd_ne k.2]; exact f79 _ _ (sr.nn k.1) e⟩
            have lD : l ≠ D := fun e => by rw [e, hD7] at hl7; cases hl7
            refine ⟨dropK kvs (Sum.inr z2), lib.filter fun m => decide (m.1 ≠ z2), v5, v6, n7 + 1, rfl, (f7.trans f79).upN nD7, sr9.ne Da.symm, by omega, by omega, upd_same, dl9.drop, ?_, by rw [upd_ne lD]; exact f79 _ _ nla hl7⟩
            have ef : (lib.filter fun m => decide (m.1 ≠ z2)).map (·.1) = ks.filter fun x => decide (x ≠ z2) := by
              rw [← lk7, List.filter_map]; rfl
            have e3 : (([z0, z1, z2] : List Str).filter fun x => decide (x ≠ z2)) = [z0, z1] := by
              have ndz : [z0, z1, z2].Nodup := hperm.nodup_iff.mpr (by decide)
              simp only [List.nodup_cons, List.mem_cons, List.not_mem_nil, or_false, not_or] at ndz
              rw [List.filter_cons_of_pos (by simpa using ndz.1.2), List.filter_cons_of_pos (by simpa using ndz.2.1), List.filter_cons_of_neg (by simp)]
              rfl
            have pf := hpk.filter (fun x => decide (x ≠ z2))
            have lf : (ks.filter fun x => decide (x ≠ z2)).length = 2 := by
              rw [pf.length_eq, e3]; rfl
            rw [ef]
            exact ⟨by omega, by omega, fun z hz => hks.mem_iff.mp (List.mem_filter.mp hz).1⟩
      · rintro σ GB ⟨kvs, lib, v5, v6, nB, rfl, fB, srB, nB0, nB1, hDB, dlB, nmB, hlB⟩
        refine ⟨_, rfl, a, 4, nB, rfl, srB, by omega, by decide, by decide, fun GC j3 fC srC j30 j31 => ⟨j3, rfl, by omega, by omega, ?_⟩⟩
        have frk : ∀ {G G' : Hp}, Fr (· ≠ a) G G' → Keep (fun y => H y = none ∧ y ≠ D) (fun y => H y = none ∧ y ≠ D) G G' := fun f => Keep.fr (f.mono fun b h => sr.nn h.1) fun _ k => k
        refine for_it (walk_range (lo := 0) (n := j3.toNat)) (fun i σ H' => ∃ (kvs : List (Key × V)) (lib : Lib) (v4 v5 v6 v7 : Option V) (n' : Int), σ = [some (.ref a), some (.int bd), some (.ref l), some (.ref D), v4, v5, v6, v7, none, none] ∧ Fr (· ≠ a) H H' ∧ Src H' a n' ∧ n ≤ n' ∧ n' ≤ n + 8 + 25 * i ∧ H' D = some (.dK kvs) ∧ DLb (fun y => H y = none ∧ y ≠ D) H' kvs lib (10 + i) ∧ NmsD (lib.map (·.1)) ∧ H' l = some (.lst [.str z0, .str z1, .str z2]))
          ⟨kvs, lib, none, v5, v6, none, nB + 1, rfl, fB.trans fC, srC, by omega, by omega, fC _ _ Da hDB, dlB.to (frk fC), nmB, fC _ _ nla hlB⟩ (fun _ _ _ _ _ => trivial) ?_ ?_
        · rintro i x σ GD GE hi ⟨kvs, lib, v4, v5, v6, v7, nD, rfl, fD, srD, nD0, nD1, hDD, dlD, nmD, hlD⟩ ⟨rfl, rfl⟩
          refine ⟨_, rfl, _, rfl, D, kvs, lib.map (·.1), rfl, .inl hDD, dlD.keys, fun ys p hys _ np => ?_⟩
          have sp : Same GE (upd GE p (.lst (ys.map V.str))) := Same.new np
          have hp2 : (upd GE p (.lst (ys.map V.str))) p = some (.lst (ys.map V.str)) := upd_same
          have srp := srD.new np (o := .lst (ys.map V.str))
          have lys : ys.length = (lib.map (·.1)).length := hys.length_eq
          have nm1 := nmD.1
          have nm2 := nmD.2.1
          have ysne : ys.map V.str ≠ [] := fun e => by
            have : ys.length = 0 := by simpa using e
            omega
          refine ⟨a, p, _, nD, rfl, srp, by omega, srD.nn np, hp2, ysne, by rw [List.length_map]; omega, fun GF x fF srF hx => ?_⟩
          obtain ⟨z, hz, rfl⟩ := List.mem_map.mp hx
          have hzl : z ∈ lib.map (·.1) := hys.mem_iff.mp hz
          generalize upd GE p (.lst (ys.map V.str)) = Gp at *
          have fEF : Fr (· ≠ a) GE GF := (Fr.same sp).trans fF
          obtain ⟨v, rs, hm, hr, hv⟩ := dlD.get hzl
          obtain ⟨lv, xs, rfl, okl, hlv, hxs⟩ := hr
          have hDF := fEF _ _ Da hDD
          have lva : lv ≠ a := sr.nn okl.1
          have hlvF := fEF _ _ lva hlv
          have lxs := paired_len hxs
          have lrs : rs.length ≤ 10 + i := (dlD.o _ hm).1
          refine ⟨_, rfl, _, rfl, _, rfl, D, _, rfl, .inl ⟨kvs, Sum.inr z, .inl hDF, rfl, hv.symm⟩, lv, xs, rfl, .inl (SqL.of hlvF), _, _, rfl, rfl, a, _, nD + 1, rfl, srF, by omega, by omega, by omega, fun GG at_ fG srG at0 at1 => ?_⟩
          have hDG := fG _ _ Da hDF
          have hlvG := fG _ _ lva hlvF
          have fEG := fEF.trans fG
          have hlG := fEG _ _ nla hlD
          refine ⟨_, rfl, _, rfl, D, _, rfl, .inl ⟨kvs, Sum.inr z, .inl hDG, rfl, hv.symm⟩, _, rfl, at_, rfl, lv, xs, rfl, SqL.of hlvG, fun p1 np1 => ?_⟩
          have sG1 : Same GG (upd GG p1 (.lst (cutV xs none (some at_)))) := Same.new np1
          have h1 : (upd GG p1 (.lst (cutV xs none (some at_)))) p1 = some (.lst (cutV xs none (some at_))) := upd_same
          have sr1' := srG.new np1 (o := .lst (cutV xs none (some at_)))
          have p1a := srG.nn np1
          generalize upd GG p1 (.lst (cutV xs none (some at_))) = G1 at *
          refine ⟨_, rfl, _, rfl, a, l, nD + 1 + 1, [z0, z1, z2], rfl, sr1', by omega, nla, sG1 _ _ hlG, Nat.le_of_ble_eq_true rfl, fun z hz => (by decide +kernel : ∀ z ∈ abcD, isW z = true) z (hperm.mem_iff.mp hz), fun G2 vr r n2' f2 sr2' n20' n21' hvr hrk => ⟨(by show 1 ≤ sizeLine; decide), fun p2 np2 => ?_⟩⟩
          have s2 : Same G2 (upd G2 p2 (.lst [vr])) := Same.new np2
          have h2 : (upd G2 p2 (.lst [vr])) p2 = some (.lst [vr]) := upd_same
          have srp2 := sr2'.new np2 (o := .lst [vr])
          generalize upd G2 p2 (.lst [vr]) = G3 at *
          have f13 : Fr (· ≠ a) G1 G3 := f2.trans (Fr.same s2)
          have fE3 : Fr (· ≠ a) GE G3 := (fEG.trans (Fr.same sG1)).trans f13
          have h1' := f13 _ _ p1a h1
          have lc : (cutV xs none (some at_)).length ≤ xs.length := cutV_length _ _ _
          refine ⟨p1, p2, _, _, rfl, rfl, h1', h2, smallE (by show _ + 1 ≤ _; omega), fun p3 np3 => ?_⟩
          have s3 : Same G3 (upd G3 p3 (.lst (cutV xs none (some at_) ++ [vr]))) := Same.new np3
          have h3 : (upd G3 p3 (.lst (cutV xs none (some at_) ++ [vr]))) p3 = some (.lst (cutV xs none (some at_) ++ [vr])) := upd_same
          have srp3 := srp2.new np3 (o := .lst (cutV xs none (some at_) ++ [vr]))
          generalize upd G3 p3 (.lst (cutV xs none (some at_) ++ [vr])) = G4 at *
          have fE4 := fE3.trans (Fr.same s3)
          have hD4 := fE4 _ _ Da hDD
          have hlv4 := fE4 _ _ lva hlv
          refine ⟨_, rfl, _, rfl, D, _, rfl, .inl ⟨kvs, Sum.inr z, .inl hD4, rfl, hv.symm⟩, _, rfl, at_, rfl, lv, xs, rfl, SqL.of hlv4, fun p4 np4 => ?_⟩
          have s4 : Same G4 (upd G4 p4 (.lst (cutV xs (some at_) none))) := Same.new np4
          have h4 : (upd G4 p4 (.lst (cutV xs (some at_) none))) p4 = some (.lst (cutV xs (some at_) none)) := upd_same
          have srp4 := srp3.new np4 (o := .lst (cutV xs (some at_) none))
          generalize upd G4 p4 (.lst (cutV xs (some at_) none)) = G5 at *
          have lc2 : (cutV xs (some at_) none).length ≤ xs.length := cutV_length _ _ _
          refine ⟨p3, p4, _, _, rfl, rfl, s4 _ _ h3, h4, smallE (by rw [List.length_append]; show _ + 1 + _ ≤ _; omega), fun p5 np5 => ?_⟩
          have s5 : Same G5 (upd G5 p5 (.lst (cutV xs none (some at_) ++ [vr] ++ cutV xs (some at_) none))) := Same.new np5
          have h5 : (upd G5 p5 (.lst (cutV xs none (some at_) ++ [vr] ++ cutV xs (some at_) none))) p5 = some (.lst (cutV xs none (some at_) ++ [vr] ++ cutV xs (some at_) none)) := upd_same
          have srp5 := srp4.new np5 (o := .lst (cutV xs none (some at_) ++ [vr] ++ cutV xs (some at_) none))
          have fE5 : Fr (· ≠ a) GE (upd G5 p5 (.lst (cutV xs none (some at_) ++ [vr] ++ cutV xs (some at_) none))) := (fE4.trans (Fr.same s4)).trans (Fr.same s5)
          have s25 := Same.trans s2 (Same.trans s3 (Same.trans s4 s5))
          have p5H : H p5 = none ∧ p5 ≠ D := by
            have n5 := Same.free s4 np5
            exact ⟨fD.free (srD.nn (fE4.free (srp3.nn n5) n5)) (fE4.free (srp3.nn n5) n5), fun e => by rw [e, hD4] at n5; cases n5⟩
          generalize upd G5 p5 (.lst (cutV xs none (some at_) ++ [vr] ++ cutV xs (some at_) none)) = G6 at *
          have hD6 := fE5 _ _ Da hDD
          have lkv : kvs.length = lib.length := paired_len dlD.l
          rw [List.length_map] at nm1
          refine ⟨_, rfl, _, rfl, D, _, rfl, DPut.k (k := Sum.inr z) hD6 (small (by omega)), ?_⟩
          have ea : at_ = ((at_.toNat : Nat) : Int) := by omega
          have kE : Keep (fun y => H y = none ∧ y ≠ D) (fun y => H y = none ∧ y ≠ D) GE (upd G6 D (.dK (putK kvs (Sum.inr z) (.ref p5)))) := fun x kd xs k e => ⟨k, by rw [upd_ne k.2]; exact fE5 _ _ (sr.nn k.1) e⟩
          have kR : Keep (fun y => G1 y = none) (fun y => H y = none ∧ y ≠ D) G2 (upd G6 D (.dK (putK kvs (Sum.inr z) (.ref p5)))) := fun x kd xs k e => by
            have k1 := Same.free sG1 k
            have k2 := fEG.free (srG.nn k1) k1
            have xD : x ≠ D := fun z => by rw [z, hDD] at k2; cases k2
            exact ⟨⟨fD.free (srD.nn k2) k2, xD⟩, by rw [upd_ne xD]; exact s25 _ _ e⟩
          have dl6 := dlD.to kE
          have lD : l ≠ D := fun e => by rw [e, hDD] at hlD; cases hlD
          have rows6 : DRows (fun y => H y = none ∧ y ≠ D) (upd G6 D (.dK (putK kvs (Sum.inr z) (.ref p5)))) (.ref p5) (rs.take at_.toNat ++ [r] ++ rs.drop at_.toNat) := by
            refine ⟨p5, _, rfl, p5H, by rw [upd_ne p5H.2]; exact h5, ?_⟩
            rw [ea, cutV_takeD, cutV_dropD, ← ea]
            have hx6 := paired_imp hxs fun _ _ q => RowAt.to q kE
            exact paired_append (paired_append (paired_takeD hx6) (.cons (hvr.to kR) .nil)) (paired_dropD hx6)
          refine ⟨_, putL lib z (rs.take at_.toNat ++ [r] ++ rs.drop at_.toNat), _, _, _, _, n2', rfl, (fD.trans fE5).upN nD7, srp5.ne Da.symm, by omega, by omega, upd_same, dl6.put hzl rows6 (by omega) ⟨?_, fun u hu => ?_⟩, by rw [DLb.names hzl]; exact nmD, by rw [upd_ne lD]; exact fE5 _ _ nla hlD⟩
          · rw [List.length_append, List.length_append, List.length_take, List.length_drop]
            show _ + 1 + _ ≤ _
            omega
          · have ro := (dlD.o _ hm).2
            rcases List.mem_append.mp hu with hu | hu
            · rcases List.mem_append.mp hu with hu | hu
              · exact ro u (List.mem_of_mem_take hu)
              · rw [List.mem_singleton.mp hu]; exact hrk
            · exact ro u (List.mem_of_mem_drop hu)
        · rintro σ GD ⟨kvs, lib, v4, v5, v6, v7, nD, rfl, fD, srD, nD0, nD1, hDD, dlD, nmD, hlD⟩
          have dlM := dlD.le (c' := 13) (by omega)
          have nD2 : nD ≤ n + 100 := by omega
          clear dlD nD1
          refine ⟨fun m σ H' => ∃ (kvs : List (Key × V)) (lib : Lib) (v4 v5 v6 v7 v8 : Option V), σ = [some (.ref a), some (.int bd), some (.ref l), some (.ref D), v4, v5, v6, v7, v8, none] ∧ totD lib = m ∧ Fr (· ≠ a) H H' ∧ Src H' a nD ∧ H' D = some (.dK kvs) ∧ DLb (fun y => H y = none ∧ y ≠ D) H' kvs lib 13 ∧ NmsD (lib.map (·.1)),
            ⟨totD lib, kvs, lib, v4, v5, v6, v7, none, rfl, rfl, fD, srD, hDD, dlM, nmD⟩, ?_⟩
          clear hDD dlM nmD fD srD hlD
          rintro m σ GF ⟨kvs, lib, v4, v5, v6, v7, v8, rfl, em, fF, srF, hDF, dlF, nmF⟩
          have sF : NmsD (lib.map (·.1)) := nmF
          have few : lib.length ≤ 3 := by have := nmF.1; rwa [List.length_map] at this
          have two : 2 ≤ lib.length := by have := nmF.2.1; rwa [List.length_map] at this
          have lne : lib ≠ [] := fun e => by rw [e] at two; simp at two
          have lkv : kvs.length = lib.length := paired_len dlF.l
          have nl8 : ∀ m ∈ lib, m.2.length ≤ 24 ∧ (∀ r ∈ m.2, RowOk 3 false r) ∧ m.1.length ≤ 1000 := fun m hm => by
            have h1 := dlF.o m hm
            have h2 : ∀ z ∈ abcD, z.length ≤ 8 := by decide
            have h3 := h2 m.1 (nmF.2.2 m.1 (List.mem_map.mpr ⟨m, hm, rfl⟩))
            exact ⟨by omega, h1.2, by omega⟩
          refine or_pull (fun b GG => Fr (· ≠ a) GF GG ∧ Src GG a nD ∧ (b = true → 0 < totD lib) ∧ (b = false → ((spotsL lib).length : Int) ≤ bd)) (fun key => ?_) ?_
          · refine ⟨_, rfl, D, kvs, lib, _, _, rfl, hDF, dlF.at, by omega, lne, dlF.nd, nl8, fun GG mm es libS sG nmm hmm hes hpS _ => ⟨.ref mm, _, rfl, .inl ⟨es, SqL.of hmm, rfl⟩, _, rfl, _, _, rfl, rfl, _, rfl, ?_⟩⟩
            have les : es.length = (spotsL lib).length := by
              rw [paired_len hes]
              exact (spotsL_perm hpS).length_eq
            have srG := srF.fr (ok := fun _ => True) (Fr.same sG) trivial
            cases hc : decide (bd < (es.length : Int)) with
            | true =>
              refine iteT (key true GG ⟨Fr.same sG, srG, fun _ => ?_, fun h => nomatch h⟩)
              rcases Nat.eq_zero_or_pos (totD lib) with z | z
              · have := spots_nilD (totD_nil z)
                rw [this] at les
                have := of_decide_eq_true hc
                rw [les] at this
                simp at this
                omega
              · exact z
            | false =>
              have hc' : ((spotsL lib).length : Int) ≤ bd := by
                have := of_decide_eq_false hc
                omega
              have hDG := sG _ _ hDF
              have dlG := dlF.to (Keep.fr (Fr.same sG) fun _ k => k)
              refine iteF ⟨D, .dK kvs, hDG, trivial, fun od => ?_⟩
              have hDL : (upd GG D (.frz od (.dK kvs))) D = some (.frz od (.dK kvs)) := upd_same
              have dlL := dlG.to (H' := upd GG D (.frz od (.dK kvs))) (ok' := fun y => H y = none ∧ y ≠ D) fun x kd xs k e => ⟨k, by rw [upd_ne k.2]; exact e⟩
              have back : ∀ K1, Same (upd GG D (.frz od (.dK kvs))) K1 → Fr (· ≠ a) GF (upd K1 D (.dK kvs)) ∧ Src (upd K1 D (.dK kvs)) a nD := fun K1 sm => by
                have fD : Fr (· ≠ D) GG (upd K1 D (.dK kvs)) := fun b o h e => by rw [upd_ne h]; exact sm _ _ (by rw [upd_ne h]; exact e)
                refine ⟨fun b o h e => ?_, srG.fr fD Da.symm⟩
                by_cases c : b = D
                · rw [c, hDF] at e
                  rw [c, upd_same]
                  exact e
                · exact fD _ _ c (sG _ _ e)
              refine ⟨_, rfl, D, od, rfl, .inl ⟨kvs, hDL, fun L nL => ?_⟩⟩
              generalize upd GG D (.frz od (.dK kvs)) = G at *
              refine lc_it walk_keys (fun i H' => Same G H' ∧ ∃ ns : List Int, H' L = some (.lst (ns.map V.int)) ∧ ns.length = i ∧ (totD lib = 0 → ∀ n ∈ ns, n = 0))
                ⟨Same.new nL, [], upd_same, rfl, by simp⟩ (fun i H' _ ⟨sm, _⟩ => sm _ _ hDL) ?_ ?_
              · rintro i x K1 K2 hi ⟨sm, ns, hL, ln, hz⟩ ⟨rfl, kx, vx, hkv, rfl⟩
                obtain ⟨z, rs, rfl, hm, hr, hv⟩ := dlL.ix hkv
                have h8 := nl8 _ (List.mem_of_getElem? hm)
                refine ⟨rfl, _, rfl, _, rfl, D, _, rfl, .inl ⟨kvs, Sum.inr z, .inr ⟨_, sm _ _ hDL⟩, rfl, hv.symm⟩, _, _, _, false, rs, rfl, (hr.rows).to (Keep.fr (Fr.same sm) fun _ k => k), h8.1, h8.2.1, fun K3 nn s3 n0 nz => ?_⟩
                refine ⟨_, s3 _ _ hL, small (by rw [List.length_map]; omega), Same.upN (Same.trans sm s3) nL, ns ++ [nn], by rw [upd_same, List.map_append]; rfl, by rw [List.length_append, ln]; rfl, fun ht n' hn' => ?_⟩
                rcases List.mem_append.mp hn' with h | h
                · exact hz ht n' h
                · rw [List.mem_singleton.mp h]
                  exact nz (totD_nil ht _ (List.mem_of_getElem? hm))
              · rintro K1 ⟨sm, ns, hL, ln, hz⟩
                have LD : L ≠ D := fun e => by rw [e, hDL] at nL; cases nL
                obtain ⟨b1, b2⟩ := back K1 sm
                refine ⟨sm _ _ hDL, L, ns, rfl, SqL.of (by rw [upd_ne LD]; exact hL), _, _, rfl, rfl, _, rfl, ?_⟩
                cases hc2 : decide ((16 : Int) < ns.sum) with
                | true =>
                  refine key true _ ⟨b1, b2, fun _ => ?_, fun h => nomatch h⟩
                  rcases Nat.eq_zero_or_pos (totD lib) with z | z
                  · rw [sum_zeroD (hz z)] at hc2
                    cases hc2
                  · exact z
                | false => exact key false _ ⟨b1, b2, (fun h => nomatch h), fun _ => hc'⟩
          · rintro b GG ⟨fG, srG, ht, hf⟩
            have hDG := fG _ _ Da hDF
            have dlG := dlF.to (frk fG)
            have kD : ∀ x, (H x = none ∧ x ≠ D) → x ≠ D := fun x h => h.2
            cases b with
            | false =>
              refine ⟨_, rfl, ?_⟩
              exact q GG D kvs lib nD (fF.trans fG) srG (by omega) (by omega) nD7 hDG dlG sF (hf rfl)
            | true =>
              have pos := ht rfl
              refine ⟨_, fun σ' H' h => h, D, .dK kvs, hDG, trivial, fun od => ?_⟩
              have hDL : (upd GG D (.frz od (.dK kvs))) D = some (.frz od (.dK kvs)) := upd_same
              have dlL := dlG.lock (od := od) kD
              refine ⟨_, rfl, D, od, rfl, .inl ⟨kvs, hDL, fun L nL => ?_⟩⟩
              have LD : L ≠ D := fun e => by rw [e, hDL] at nL; cases nL
              refine lc_it walk_keys (fun i H' => Same (upd GG D (.frz od (.dK kvs))) H' ∧ H' L = some (.lst (((lib.take i).map fun m => (m.2.length : Int)).map V.int)))
                ⟨Same.new nL, upd_same⟩ (fun i H' _ ⟨sm, _⟩ => sm _ _ hDL) ?_ ?_
              · rintro i x K1 K2 hi ⟨sm, hL⟩ ⟨rfl, kx, vx, hkv, rfl⟩
                obtain ⟨z, rs, rfl, hm, hr, hv⟩ := dlL.ix hkv
                obtain ⟨lv, xs, rfl, okl, hlv, hxs⟩ := hr
                have lx := paired_len hxs
                refine ⟨rfl, _, rfl, _, rfl, D, _, rfl, .inl ⟨kvs, Sum.inr z, .inr ⟨_, sm _ _ hDL⟩, rfl, hv.symm⟩, lv, xs, rfl, .inl (SqL.of (sm _ _ hlv)), ?_⟩
                refine ⟨_, hL, small (by rw [List.length_map, List.length_map, List.length_take]; omega), Same.upN sm nL, ?_⟩
                rw [upd_same, List.take_add_one, hm, lx, List.map_append, List.map_append]
                rfl
              · rintro K1 ⟨sm, hL⟩
                rw [lkv, List.take_length] at hL
                have sU := unlock_same hDG sm
                have hLU : (upd K1 D (.dK kvs)) L = some (.lst ((lib.map fun m => (m.2.length : Int)).map V.int)) := by rw [upd_ne LD]; exact hL
                refine ⟨sm _ _ hDL, L, _, rfl, SqL.of hLU, by rw [List.length_map]; omega, fun mx hmx hall => ?_⟩
                generalize upd K1 D (.dK kvs) = K2 at *
                have hD2 := sU _ _ hDG
                have dl2 := dlG.to (Keep.fr (Fr.same sU) fun _ k => k)
                refine ⟨D, .dK kvs, hD2, trivial, fun od2 => ?_⟩
                have hDL2 : (upd K2 D (.frz od2 (.dK kvs))) D = some (.frz od2 (.dK kvs)) := upd_same
                have dlL2 := dl2.lock (od := od2) kD
                refine ⟨_, rfl, D, od2, rfl, .inl ⟨kvs, hDL2, fun L2 nL2 => ?_⟩⟩
                have LD2 : L2 ≠ D := fun e => by rw [e, hDL2] at nL2; cases nL2
                refine lc_it walk_keys (fun i H' => Same (upd K2 D (.frz od2 (.dK kvs))) H' ∧ H' L2 = some (.lst ((((lib.take i).filter fun m => decide (V.int (m.2.length : Int) = V.int mx)).map (·.1)).map V.str)))
                  ⟨Same.new nL2, upd_same⟩ (fun i H' _ ⟨sm, _⟩ => sm _ _ hDL2) ?_ ?_
                · rintro i x K3 K4 hi ⟨sm2, hL2⟩ ⟨rfl, kx, vx, hkv, rfl⟩
                  obtain ⟨z, rs, rfl, hm, hr, hv⟩ := dlL2.ix hkv
                  obtain ⟨lv, xs, rfl, okl, hlv, hxs⟩ := hr
                  have lx := paired_len hxs
                  refine ⟨rfl, _, rfl, _, rfl, D, _, rfl, .inl ⟨kvs, Sum.inr z, .inr ⟨_, sm2 _ _ hDL2⟩, rfl, hv.symm⟩, lv, xs, rfl, .inl (SqL.of (sm2 _ _ hlv)), _, rfl, rfl, _, rfl, ?_⟩
                  rw [lx]
                  have et : (lib.take (i + 1)).filter (fun m => decide (V.int (m.2.length : Int) = V.int mx)) = (lib.take i).filter (fun m => decide (V.int (m.2.length : Int) = V.int mx)) ++ (if decide (V.int (rs.length : Int) = V.int mx) = true then [(z, rs)] else []) := by
                    rw [List.take_add_one, hm, List.filter_append]
                    congr 1
                    show List.filter _ [(z, rs)] = _
                    rw [List.filter_cons]
                    rfl
                  cases hc : decide (V.int (rs.length : Int) = V.int mx) with
                  | true =>
                    rw [hc] at et
                    have lf := List.length_filter_le (fun m : Str × List Row => decide (V.int (m.2.length : Int) = V.int mx)) (lib.take i)
                    rw [List.length_take] at lf
                    refine iteT ⟨_, rfl, _, hL2, small (by rw [List.length_map, List.length_map]; omega), Same.upN sm2 nL2, ?_⟩
                    rw [upd_same, et, List.map_append, List.map_append]
                    rfl
                  | false =>
                    rw [hc] at et
                    refine iteF ⟨sm2, ?_⟩
                    rw [et, hL2]
                    congr 3
                    simp
                · rintro K3 ⟨sm2, hL2⟩
                  rw [lkv, List.take_length] at hL2
                  have sU2 := unlock_same hD2 sm2
                  have hLU2 : (upd K3 D (.dK kvs)) L2 = some (.lst (((lib.filter fun m => decide (V.int (m.2.length : Int) = V.int mx)).map (·.1)).map V.str)) := by rw [upd_ne LD2]; exact hL2
                  have hne : (lib.filter fun m => decide (V.int (m.2.length : Int) = V.int mx)).map (·.1) ≠ [] := fun e => by
                    obtain ⟨m, hm, em⟩ := List.mem_map.mp hmx
                    have : m ∈ lib.filter fun m => decide (V.int (m.2.length : Int) = V.int mx) := List.mem_filter.mpr ⟨hm, decide_eq_true (by rw [em])⟩
                    rw [List.map_eq_nil_iff.mp e] at this
                    cases this
                  refine ⟨sm2 _ _ hDL2, L2, _, rfl, SqL.of hLU2, hne, fun z hz => ?_⟩
                  generalize upd K3 D (.dK kvs) = K4 at *
                  obtain ⟨⟨z', rs0⟩, hm0, ez⟩ := List.mem_map.mp hz
                  have ez' : z' = z := ez
                  subst ez'
                  obtain ⟨hm0, er0⟩ := List.mem_filter.mp hm0
                  have er : (rs0.length : Int) = mx := V.int.inj (of_decide_eq_true er0)
                  have hzl : z' ∈ lib.map (·.1) := List.mem_map.mpr ⟨_, hm0, rfl⟩
                  have s2U := Same.trans sU sU2
                  have dl4 := dlG.to (Keep.fr (Fr.same s2U) fun _ k => k)
                  obtain ⟨v, rs, hm, hr, hv⟩ := dl4.get hzl
                  have ers : rs = rs0 := nd_fst dlF.nd hm hm0
                  subst ers
                  obtain ⟨lv, xs, rfl, okl, hlv, hxs⟩ := hr
                  have hD4 := s2U _ _ hDG
                  have rpos : 0 < rs.length := by
                    rcases Nat.eq_zero_or_pos rs.length with e | e
                    · have hz0 : ∀ m ∈ lib, m.2.length = 0 := fun m hm => by
                        have := hall m.2.length (List.mem_map.mpr ⟨m, hm, rfl⟩)
                        omega
                      have : totD lib = 0 := totD_zero hz0
                      omega
                    · exact e
                  have srU := srG.fr (ok := fun _ => True) (Fr.same s2U) trivial
                  refine ⟨_, rfl, _, rfl, D, _, rfl, .inl ⟨kvs, Sum.inr z', .inl hD4, rfl, hv.symm⟩, 1, rfl, _, rfl, lv, xs, rfl, SqL.of hlv, fun p5 np5 => ?_⟩
                  have s5 : Same K4 (upd K4 p5 (.lst (cutV xs none (some (-1))))) := Same.new np5
                  have h5 : (upd K4 p5 (.lst (cutV xs none (some (-1))))) p5 = some (.lst (cutV xs none (some (-1)))) := upd_same
                  have sr5 := srU.new np5 (o := .lst (cutV xs none (some (-1))))
                  have p5G := Same.free s2U np5
                  have p5H : H p5 = none ∧ p5 ≠ D := ⟨(fF.trans fG).free (srG.nn p5G) p5G, fun e => by rw [e, hDG] at p5G; cases p5G⟩
                  refine ⟨_, rfl, _, rfl, D, _, rfl, DPut.k (k := Sum.inr z') (s5 _ _ hD4) (small (by omega)), ?_⟩
                  generalize upd K4 p5 (.lst (cutV xs none (some (-1)))) = K5 at *
                  have sG5 := Same.trans s2U s5
                  have kE : Keep (fun y => H y = none ∧ y ≠ D) (fun y => H y = none ∧ y ≠ D) K4 (upd K5 D (.dK (putK kvs (Sum.inr z') (.ref p5)))) := fun x kd xs k e => ⟨k, by rw [upd_ne k.2]; exact s5 _ _ e⟩
                  have rows5 : DRows (fun y => H y = none ∧ y ≠ D) (upd K5 D (.dK (putK kvs (Sum.inr z') (.ref p5)))) (.ref p5) rs.dropLast := ⟨p5, _, rfl, p5H, by rw [upd_ne p5H.2]; exact h5, by rw [cut_negD]; exact paired_lastD (paired_imp hxs fun _ _ q => RowAt.to q kE)⟩
                  have ro : rs.length ≤ 13 ∧ ∀ r ∈ rs, RowOk 3 false r := dlF.o _ hm
                  refine ⟨totD (putL lib z' rs.dropLast), ?_, _, putL lib z' rs.dropLast, _, _, _, _, _, rfl, rfl, ((fF.trans fG).trans (Fr.same sG5)).upN nD7, sr5.ne Da.symm, upd_same, (dl4.to kE).put hzl rows5 (Nat.le_refl _) ⟨by rw [List.length_dropLast]; omega, fun u hu => ro.2 u (List.dropLast_subset _ hu)⟩, by rw [DLb.names hzl]; exact nmF⟩
                  rw [← em]
                  exact totD_put dlF.nd hm (by rw [List.length_dropLast]; omega)
end
end Ft
set_option Elab.async false
set_option linter.all false
set_option maxRecDepth 100000
set_option maxHeartbeats 2000000
namespace Ft
open PySem L2
/-- what Program(lib) leaves -/
structure PNew (CP : Addr) (lib : Lib) (H H' : Hp) (px rd sl : Addr) : Prop where
  sm : Same H H'
  npx : H px = none
  nrd : H rd = none
  nsl : H sl = none
  at_ : ∃ pdx, H' px = some (.ins CP pdx [("rows_of", .ref rd), ("spots", .ref sl)])
  rows : ∃ kvs, H' rd = some (.dK kvs) ∧ LibAt (fun _ => True) tupK H' kvs lib
  pls : PlsAt H' sl (spotsL lib)
theorem prog_inR {CP : Addr} {H : Hp} {R : VK} {E : XK} {px pdx dl : Addr} {kvs : List (Key × V)} {lib lib' : Lib} {O : Addr → Prop} {kk : Bool → Bool → Prop} (hdl : H dl = some (.dK kvs)) (hlib : LibAt O kk H kvs lib') (lr : LibR lib') (perm : lib.Perm lib') (srt : PyProof.Rows.sortedS (lib.map (·.1)) = true) (npx : H px = none) (npdx : H pdx = none) (pne : pdx ≠ px) (q : ∀ H1 rd sl, PNew CP lib H H1 px rd sl → R .non H1) :
    spProgramInit CP (.ref px :: ([.ref dl] ++ [])) (upd (upd H pdx (.own px)) px (.ins CP pdx [])) R E := by
  have hlibO : LibAt (fun y => O y ∧ H y ≠ none) kk H kvs lib' := hlib.to (Keep.mono fun y k al => ⟨k, al⟩)
  have sI : Same H (upd (upd H pdx (.own px)) px (.ins CP pdx [])) := fun b o e => by
    rw [upd_ne (ne_of_none e npx), upd_ne (ne_of_none e npdx)]; exact e
  refine ⟨px, pdx, dl, kvs, lib', (fun y => O y ∧ H y ≠ none), kk, rfl, upd_same, sI _ _ hdl, hlibO.to (Keep.fr (Fr.same sI) fun _ k => k), (fun z => z.2 npx), lr, fun H1 rd sl lib2 fr1 prog perm2 sort nrd nsl => ?_⟩
  have el := libs_eq perm2 perm sort srt lr.nd
  subst el
  have s1 : Same H H1 := fun b o e => fr1 _ _ (ne_of_none e npx) (sI _ _ e)
  obtain ⟨kvs2, hrd1, hlib1⟩ := prog.rows
  obtain ⟨zs, hsl1, hz⟩ := prog.spots
  exact q H1 rd sl ⟨s1, npx, Same.free sI nrd, Same.free sI nsl, ⟨pdx, prog.ins⟩, ⟨kvs2, hrd1, hlib1.to fun y kd xs _ e => ⟨trivial, e⟩⟩, spots_pls hsl1 hz⟩
theorem rowW_shortD : ∀ (d : Nat) (path : List Int) (r : Row) (k : Nat), ∀ q ∈ rowW d path (r, k), q.1.length ≤ path.length + 2 * d + 1 := by
  intro d
  induction d with
  | zero =>
    intro path r k q hq
    rw [List.mem_singleton.mp hq]
    simp
  | succ d ih =>
    intro path r k q hq
    have hq' : q ∈ (path ++ [(k : Int)], r) :: (blocks r).zipIdx.flatMap (fun q => q.1.zipIdx.flatMap (rowW d (path ++ [(k : Int), (q.2 : Int)]))) := hq
    rcases List.mem_cons.mp hq' with e | hq'
    · rw [e]
      show (path ++ [(k : Int)]).length ≤ _
      rw [List.length_append, List.length_singleton]
      omega
    · obtain ⟨p, hp, hq⟩ := List.mem_flatMap.mp hq'
      obtain ⟨p2, hp2, hq⟩ := List.mem_flatMap.mp hq
      have := ih _ p2.1 p2.2 q hq
      simp at this
      omega
theorem spots_shortD {lib : Lib} {q : Str × List Int} (h : q ∈ spotsL lib) : q.2.length ≤ 1000 := by
  obtain ⟨m, _, hq⟩ := List.mem_flatMap.mp h
  unfold spotsM at hq
  obtain ⟨w, hw, e⟩ := List.mem_map.mp hq
  have hw2 := (List.mem_filter.mp hw).1
  obtain ⟨p, _, hp⟩ := List.mem_flatMap.mp hw2
  have := rowW_shortD 3 [] p.1 p.2 w hp
  rw [← e]
  show w.1.length ≤ 1000
  simp at this
  omega
theorem PlAt.kp {H H' : Hp} {c t : Addr} {p : Pl} {zs : List V} (h : PlAt H t p) (hc : H c = some (.lst zs)) (f : ∀ b o, b ≠ c → H b = some o → H' b = some o) : PlAt H' t p := h.to fun b xs e => f _ _ (ne_of e hc (by intro z; cases z)) e
theorem PlsAt.kp {H H' : Hp} {c l : Addr} {pls : List Pl} {zs : List V} (h : PlsAt H l pls) (hl : l ≠ c) (hc : H c = some (.lst zs)) (f : ∀ b o, b ≠ c → H b = some o → H' b = some o) : PlsAt H' l pls := by
  obtain ⟨ps, h1, h2⟩ := h
  exact ⟨ps, f _ _ hl h1, paired_imp h2 fun _ _ q => q.kp hc f⟩
theorem LtAt.kp {H H' : Hp} {CL c x pg l : Addr} {zs : List V} (h : LtAt H CL x pg l) (hc : H c = some (.lst zs)) (f : ∀ b o, b ≠ c → H b = some o → H' b = some o) : LtAt H' CL x pg l := by
  obtain ⟨dx, e⟩ := h
  exact ⟨dx, f _ _ (ne_of e hc (by intro z; cases z)) e⟩
theorem Src.lst {H : Hp} {a : Addr} {n : Int} (s : Src H a n) : ∃ zs, H a = some (.lst zs) := by
  obtain ⟨d, s, e, _⟩ := s
  exact ⟨_, e⟩
def PlB (N : Nat) (pls : List Pl) : Prop := pls.length ≤ N ∧ ∀ p ∈ pls, p.2.length ≤ 1000 ∧ PyData.strOk p.1 = true
theorem PlB.ok {N : Nat} {pls : List Pl} (h : PlB N pls) (hN : N ≤ 1000) : PlOk pls := ⟨Nat.le_trans h.1 hN, h.2⟩
/-- the late sets so far and what is due -/
structure LS (CL pm a S U : Addr) (H : Hp) (xs ls : List Addr) (ps : List (List Pl)) (N : Nat) : Prop where
  hS : H S = some (.lst (xs.map V.ref))
  hU : H U = some (.lst (ls.map V.ref))
  sa : S ≠ a
  ua : U ≠ a
  su : S ≠ U
  px : Paired (fun x pls => ∃ l, LtAt H CL x pm l ∧ l ≠ a ∧ l ≠ S ∧ l ≠ U ∧ PlsAt H l pls) xs ps
  pl : Paired (fun l pls => l ≠ a ∧ l ≠ S ∧ l ≠ U ∧ PlsAt H l pls) ls ps
  nd : xs.Nodup
  ok : ∀ pls ∈ ps, PlB N pls
theorem LS.fr {CL pm a S U : Addr} {H H' : Hp} {xs ls : List Addr} {ps : List (List Pl)} {N : Nat} {n : Int} (h : LS CL pm a S U H xs ls ps N) (sr : Src H a n) (f : Fr (· ≠ a) H H') : LS CL pm a S U H' xs ls ps N := by
  obtain ⟨zs, hz⟩ := sr.lst
  have k : ∀ b o, b ≠ a → H b = some o → H' b = some o := fun b o h e => f b o h e
  exact ⟨f _ _ h.sa h.hS, f _ _ h.ua h.hU, h.sa, h.ua, h.su, paired_imp h.px fun _ _ ⟨l, h1, h2, h3, h4, h5⟩ => ⟨l, h1.kp hz k, h2, h3, h4, h5.kp h2 hz k⟩, paired_imp h.pl fun _ _ ⟨h2, h3, h4, h5⟩ => ⟨h2, h3, h4, h5.kp h2 hz k⟩, h.nd, h.ok⟩
theorem LS.same {CL pm a S U : Addr} {H H' : Hp} {xs ls : List Addr} {ps : List (List Pl)} {N : Nat} (h : LS CL pm a S U H xs ls ps N) (f : Same H H') : LS CL pm a S U H' xs ls ps N :=
  ⟨f _ _ h.hS, f _ _ h.hU, h.sa, h.ua, h.su, paired_imp h.px fun _ _ ⟨l, h1, h2, h3, h4, h5⟩ => ⟨l, h1.same f, h2, h3, h4, h5.same f⟩, paired_imp h.pl fun _ _ ⟨h2, h3, h4, h5⟩ => ⟨h2, h3, h4, h5.same f⟩, h.nd, h.ok⟩
theorem nodup_app {α : Type} {l : List α} {x : α} (h : l.Nodup) (hx : x ∉ l) : (l ++ [x]).Nodup := by
  rw [List.nodup_append]
  refine ⟨h, by simp, fun a ha b hb e => ?_⟩
  rw [List.mem_singleton.mp hb] at e
  exact hx (e ▸ ha)
theorem paired_memR {α β : Type} {R : α → β → Prop} {xs : List α} {ys : List β} (h : Paired R xs ys) {y : β} (hy : y ∈ ys) : ∃ x, x ∈ xs ∧ R x y := by
  induction h with
  | nil => cases hy
  | cons r t ih =>
    rcases List.mem_cons.mp hy with e | hy
    · rw [e]; exact ⟨_, by simp, r⟩
    · obtain ⟨x, hx, hr⟩ := ih hy
      exact ⟨x, by simp [hx], hr⟩
theorem LS.get {CL pm a S U : Addr} {H : Hp} {xs ls : List Addr} {ps : List (List Pl)} {N j : Nat} (h : LS CL pm a S U H xs ls ps N) (hj : j < xs.length) : ∃ x p l, xs[j]? = some x ∧ ps[j]? = some p ∧ ls[j]? = some l ∧ (∃ l, LtAt H CL x pm l ∧ l ≠ a ∧ l ≠ S ∧ l ≠ U ∧ PlsAt H l p) ∧ (l ≠ a ∧ l ≠ S ∧ l ≠ U ∧ PlsAt H l p) ∧ PlB N p := by
  have e1 : xs[j]? = some xs[j] := List.getElem?_eq_getElem hj
  obtain ⟨p, hp, r1⟩ := paired_get h.px e1
  have lp := paired_len h.px
  have ll := paired_len h.pl
  have hj2 : j < ls.length := by omega
  have e2 : ls[j]? = some ls[j] := List.getElem?_eq_getElem hj2
  obtain ⟨p', hp', r2⟩ := paired_get h.pl e2
  have ep : p' = p := Option.some.inj (hp'.symm.trans hp)
  subst ep
  exact ⟨_, _, _, e1, hp, e2, r1, r2, h.ok _ (List.mem_of_getElem? hp)⟩
theorem LS.app {CL pm a S U : Addr} {HC HD HF : Hp} {xs ls : List Addr} {ps : List (List Pl)} {N : Nat} {n : Int} {z lz m : Addr} {p : List Pl} (L : LS CL pm a S U HC xs ls ps N) (sr : Src HC a n) (sD : Same HC HD) (hz : LtAt HD CL z pm lz) (hlz : PlsAt HD lz p) (nz : HC z = none) (nlz : HC lz = none)
    (sF : Same (upd HD S (.lst (xs.map V.ref ++ [.ref z]))) HF) (nm : (upd HD S (.lst (xs.map V.ref ++ [.ref z]))) m = none) (hm : PlsAt HF m p) (hp : PlB (2 * N) p) : LS CL pm a S U (upd HF U (.lst (ls.map V.ref ++ [.ref m]))) (xs ++ [z]) (ls ++ [m]) (ps ++ [p]) (2 * N) := by
  have LD := L.same sD
  have kS : ∀ b o, b ≠ S → HD b = some o → (upd HD S (.lst (xs.map V.ref ++ [.ref z]))) b = some o := fun b o h e => by rw [upd_ne h]; exact e
  have hSE : (upd HD S (.lst (xs.map V.ref ++ [.ref z]))) S = some (.lst (xs.map V.ref ++ [.ref z])) := upd_same
  have hUE : (upd HD S (.lst (xs.map V.ref ++ [.ref z]))) U = some (.lst (ls.map V.ref)) := kS _ _ L.su.symm LD.hU
  have srE : Src (upd HD S (.lst (xs.map V.ref ++ [.ref z]))) a n := (sr.fr (ok := fun _ => True) (Fr.same sD) trivial).ne L.sa.symm
  generalize upd HD S (.lst (xs.map V.ref ++ [.ref z])) = HE at *
  have hUF := sF _ _ hUE
  have kU : ∀ b o, b ≠ U → HF b = some o → (upd HF U (.lst (ls.map V.ref ++ [.ref m]))) b = some o := fun b o h e => by rw [upd_ne h]; exact e
  have all : ∀ {l : Addr} {q : List Pl}, l ≠ S → l ≠ U → PlsAt HD l q → PlsAt (upd HF U (.lst (ls.map V.ref ++ [.ref m]))) l q := fun h1 h2 h => ((h.kp h1 LD.hS kS).same sF).kp h2 hUF kU
  have allx : ∀ {x l : Addr}, LtAt HD CL x pm l → LtAt (upd HF U (.lst (ls.map V.ref ++ [.ref m]))) CL x pm l := fun h => ((h.kp LD.hS kS).same sF).kp hUF kU
  have lzS : lz ≠ S := fun e => by rw [e, L.hS] at nlz; cases nlz
  have lzU : lz ≠ U := fun e => by rw [e, L.hU] at nlz; cases nlz
  have mS : m ≠ S := fun e => by rw [e, hSE] at nm; cases nm
  have mU : m ≠ U := fun e => by rw [e, hUE] at nm; cases nm
  refine ⟨?_, ?_, L.sa, L.ua, L.su, ?_, ?_, ?_, ?_⟩
  · rw [upd_ne L.su, List.map_append]; exact sF _ _ hSE
  · rw [upd_same, List.map_append]; rfl
  · exact paired_append (paired_imp LD.px fun _ _ ⟨l, h1, h2, h3, h4, h5⟩ => ⟨l, allx h1, h2, h3, h4, all h3 h4 h5⟩) (.cons ⟨lz, allx hz, sr.nn nlz, lzS, lzU, all lzS lzU hlz⟩ .nil)
  · exact paired_append (paired_imp LD.pl fun _ _ ⟨h2, h3, h4, h5⟩ => ⟨h2, h3, h4, all h3 h4 h5⟩) (.cons ⟨srE.nn nm, mS, mU, hm.kp mU hUF kU⟩ .nil)
  · refine nodup_app L.nd fun hx => ?_
    obtain ⟨_, _, _, ⟨dx', h1⟩, _⟩ := paired_mem L.px hx
    rw [nz] at h1; cases h1
  · intro q hq
    rcases List.mem_append.mp hq with hq | hq
    · have := L.ok q hq
      exact ⟨by have := this.1; omega, this.2⟩
    · rw [List.mem_singleton.mp hq]; exact hp
theorem lk_placesL (r l : V) : (ltF r l).lookup ("places" : Str) = none := by
  have h1 : (("places" : Str) == "program") = false := by decide
  have h2 : (("places" : Str) == "spots") = false := by decide
  simp [ltF, List.lookup, h1, h2]
end Ft
set_option Elab.async false
set_option linter.all false
set_option maxRecDepth 100000
set_option maxHeartbeats 1000000
set_option pp.maxSteps 5000
set_option pp.deepTerms.threshold 10
namespace Ft
open PySem L2
def inT (t : Th) (pls : List Pl) : Bool := match placeT t with
  | none => false
  | some p => decide (p ∈ pls)
def OkT (t : Th) : Prop := ∀ p, placeT t = some p → PyData.strOk p.1 = true ∧ p.2.length ≤ 1000
section
variable {P : PySem.Program} {w : World} {K : PySem.W.Frag} {mg : Str → Option Value} {base : Heap}
abbrev sLListed : Stmt := topS 51
theorem scLListed : FnScope ["_law_source_here", "_law_place", "_law_path"] ["_law_source_here", "_law_place"] (defScope sLListed) := ⟨rfl, rfl, rfl, by decide +kernel, rfl, by decide +kernel, by decide +kernel⟩
/-- a place as a thing -/
def plTh (p : Pl) : Th := .sq [.at (.str p.1), .sq (p.2.map fun i => .at (.int i))]
theorem ints_ph {H : Hp} {m : Nat} : ∀ ns : List Int, Paired (PhAt H m) (ns.map V.int) (ns.map fun i => .at (.int i))
  | [] => .nil
  | i :: ns => .cons (phAt_at' (by rfl)) (ints_ph ns)
theorem pathT_ints : ∀ ns : List Int, pathT (ns.map fun i => .at (.int i)) = some ns
  | [] => rfl
  | i :: ns => by
    show pathT (.at (.int i) :: ns.map fun i => .at (.int i)) = _
    rw [pathT, pathT_ints ns]; rfl
theorem placeT_plTh (p : Pl) : placeT (plTh p) = some p := by
  show (pathT (p.2.map fun i => .at (.int i))).map _ = _
  rw [pathT_ints]; rfl
theorem plTh_at {H : Hp} {T b : Addr} {k1 k2 : Bool} {p : Pl} (h1 : H T = some (mkO k1 [.str p.1, .ref b])) (h2 : H b = some (mkO k2 (p.2.map V.int))) (hz : p.1.length ≤ 1000) (hp : p.2.length ≤ 100) : PhAt H 2 (.ref T) (plTh p) :=
  ⟨T, k1, _, rfl, h1, by simp, .cons ⟨rfl, by simp [smallT, isAtom, hz]⟩ (.cons ⟨b, k2, _, rfl, h2, by simpa using hp, ints_ph _⟩ .nil)⟩
def spLListed : Sp := fun vs H Q _ => ∃ (a T : Addr) (n : Int) (p : Pl), vs = [.ref a, .ref T] ∧ Src H a n ∧ n < 2 ^ 39 ∧ PlAt H T p ∧ p.1.length ≤ 1000 ∧ p.2.length ≤ 100 ∧
  ∀ H' T' b k1 k2 n', Fr (· ≠ a) H H' → Src H' a n' → n ≤ n' → n' ≤ n + 2 → H' T' = some (mkO k1 [.str p.1, .ref b]) → H' b = some (mkO k2 (p.2.map V.int)) → H T' = none → (∀ c xs, H c = some (.lst xs) → b ≠ c) → Q (.ref T') H'
theorem ok_LListed {f : Addr} {fd : FuncData} {k : Nat} (F : Fun K "_law_listed" "_law_listed" sLListed f fd) (B : Bl mg) (hk : 1 ≤ k) (gLDraw : Own P w K mg base 1 "_law_draw" ["_law_source_here", "_law_many"] spLDraw) : FnOk P w K mg base CX0 (k + 1) f fd ["_law_source_here", "_law_place"] spLListed := by
  refine F.ok scLListed (fun vs H Q E h => ?_) (fun cdv A outer s H vs Q E hr h => ?_)
  · obtain ⟨a, T, n, p, rfl, _⟩ := h
    rfl
  obtain ⟨a, T, n, p, rfl, sr, hn, ⟨b, hT, hb⟩, lz, lp, q⟩ := h
  refine ⟨_, (pss_cons (ps_set (i := 2) scLListed.nd rfl (by first | exact Or.inl rfl | exact Or.inr rfl) (pe_ifExp (pt_cmpR op_eq (pe_own gLDraw (hr.mono (by omega)) (by rfl) (pa_cons (pv 0) (pa_cons pe_int pa_nil))) pe_int (nomark _)) (pe_callTy call_list_of (by rfl) B.list (by decide +kernel) (pa_cons (pe_ix ix_tup (pv 1) pe_int (fun _ _ => rfl)) pa_nil)) (pe_ix ix_tup (pv 1) pe_int (fun _ _ => rfl))))
      (pss_one (ps_ret (pe_ifExp (pt_cmpR op_eq (pe_own gLDraw (hr.mono (by omega)) (by rfl) (pa_cons (pv 0) (pa_cons pe_int pa_nil))) pe_int (nomark _)) (pe_lst (pa_cons (pe_ix ix_tup (pv 1) pe_int (fun _ _ => rfl)) (pa_cons (pv 2) pa_nil))) (pe_tup (pa_cons (pe_ix ix_tup (pv 1) pe_int (fun _ _ => rfl)) (pa_cons (pv 2) pa_nil))))))), ?_⟩
  have oka : ∀ {x : Addr} {o : HO}, H x = some o → (∀ ys, o ≠ .lst ys) → x ≠ a := fun {x o} h hn e => by
    obtain ⟨zs, hz⟩ := Src.lst sr
    rw [e, hz] at h
    exact hn _ (Option.some.inj h).symm
  have Ta := oka hT (by intro ys z; cases z)
  have ba := oka hb (by intro ys z; cases z)
  have fin : ∀ (b' : Addr) (k2 : Bool) (H1 : Hp) (n1 : Int), Fr (· ≠ a) H H1 → Src H1 a n1 → n ≤ n1 → n1 ≤ n + 1 → H1 b' = some (mkO k2 (p.2.map V.int)) → b' ≠ a → (∀ c xs, H c = some (.lst xs) → b' ≠ c) →
      (tRet (tIf (tTest (tOp rEq (tCall spLDraw [] E0 (tCons (tVar 0) (tCons (tC (V.int 2)) tNil))) (tC (V.int 0)))) (tLst (tCons (tOp (rIxT K) (tVar 1) (tC (V.int 0))) (tCons (tVar 2) tNil))) (tTup (tCons (tOp (rIxT K) (tVar 1) (tC (V.int 0))) (tCons (tVar 2) tNil))))) { nx := fun x H' => Q V.non H', rt := Q } [some (V.ref a), some (V.ref T), some (.ref b')] H1 := fun b' k2 H1 n1 f1 sr1 g0 g1 hb1 nb nl => by
    refine ⟨_, rfl, a, 2, n1, rfl, sr1, by omega, by decide, by decide, fun HA way fA srA w0 w2 => ⟨rfl, _, rfl, ?_⟩⟩
    have hT2 := fA _ _ Ta (f1 _ _ Ta hT)
    have hb2 := fA _ _ nb hb1
    have fin2 : ∀ k1 : Bool, 2 ≤ sizeLine ∧ ∀ T', HA T' = none → Q (.ref T') (upd HA T' (mkO k1 [.str p.1, .ref b'])) := fun k1 => ⟨(by decide), fun T' nT' => by
      have s2 : Same HA (upd HA T' (mkO k1 [.str p.1, .ref b'])) := Same.new nT'
      have f2 := (f1.trans fA).trans (Fr.same s2)
      exact q _ T' b' k1 k2 (n1 + 1) f2 (srA.fr (ok := fun _ => True) (Fr.same s2) trivial) (by omega) (by omega) upd_same (s2 _ _ hb2) ((f1.trans fA).free (srA.nn nT') nT') nl⟩
    cases (decide (V.int way = V.int 0)) with
    | true => exact iteT ⟨_, rfl, T, _, 0, _, rfl, rfl, SqT.of hT2, rfl, _, rfl, fin2 true⟩
    | false => exact iteF ⟨_, rfl, T, _, 0, _, rfl, rfl, SqT.of hT2, rfl, _, rfl, fin2 false⟩
  refine ⟨_, rfl, a, 2, n, rfl, sr, by omega, by decide, by decide, fun HA way fA srA w0 w2 => ⟨rfl, _, rfl, ?_⟩⟩
  have hT2 := fA _ _ Ta hT
  have hb2 := fA _ _ ba hb
  cases (decide (V.int way = V.int 0)) with
  | true =>
    refine iteT ⟨_, rfl, T, _, 1, _, rfl, rfl, SqT.of hT2, rfl, b, _, rfl, .inr (SqT.of hb2), fun l nl => ?_⟩
    exact fin l true _ (n + 1) (fA.trans (Fr.new nl)) (srA.new nl) (by omega) (by omega) upd_same (srA.nn nl) fun c xs hc e => by
      rw [e] at nl
      rw [fA.free (srA.nn nl) nl] at hc
      cases hc
  | false =>
    refine iteF ⟨_, rfl, T, _, 1, _, rfl, rfl, SqT.of hT2, rfl, ?_⟩
    exact fin b false HA (n + 1) fA srA (by omega) (by omega) hb2 ba fun c xs hc e => by
      rw [← e, hb] at hc
      cases hc
end
end Ft
set_option Elab.async false
set_option linter.all false
set_option maxRecDepth 100000
set_option maxHeartbeats 1000000
set_option pp.maxSteps 5000
set_option pp.deepTerms.threshold 10
namespace Ft
open PySem L2
theorem none_notIn {K : PySem.W.Frag} {H : Hp} {a : Addr} {ps : List Addr} {pls : List Pl} (h : H a = some (.lst (ps.map V.ref))) (hp : Paired (PlAt H) ps pls) (hl : pls.length ≤ 1000000) (hs : ∀ p ∈ pls, p.2.length ≤ 1000000) (ho : ∀ p ∈ pls, PyData.strOk p.1 = true) {Q : VK} (qq : Q (.bl true) H) : rNotInD K .non (.ref a) H Q := by
  have d2 := pls_dt h hp hl hs
  have d1 : DtAt H 2 .non (.at .non) := ⟨rfl, rfl⟩
  refine ⟨dtD (.at .non), dtDs (pls.map plDT), dp_dt _ _ _ d1, dp_dt _ _ _ d2, shaped_dt d1 (by decide) (by decide), shaped_dt d2 (show dtOks (pls.map plDT) = true from pls_dtOk ho) (by decide), ?_⟩
  have k : ((dtDs (pls.map plDT)).any fun y => PyData.eqv y (dtD (.at .non))) = false := by
    clear h hp hl hs ho qq d2
    induction pls with
    | nil => rfl
    | cons p pls ih =>
      show (PyData.eqv (dtD (plDT p)) (dtD (.at .non)) || (dtDs (pls.map plDT)).any fun y => PyData.eqv y (dtD (.at .non))) = false
      rw [ih, Bool.or_false]
      show PyData.eqv (dtD (.sq false _)) .none = false
      rfl
  rw [k]
  exact qq
section
variable {P : PySem.Program} {w : World} {K : PySem.W.Frag} {mg : Str → Option Value} {base : Heap}
abbrev sBadPlaceInit : Stmt := inClass (topS 6) 0
theorem scBadPlaceInit : FnScope ["self", "place"] ["self", "place"] (defScope sBadPlaceInit) := ⟨rfl, rfl, rfl, by decide +kernel, rfl, by decide +kernel, by decide +kernel⟩
theorem ok_BadPlaceInit {f C : Addr} {fd : FuncData} {k : Nat} (F : Fun K "__init__" "BadPlace.__init__" sBadPlaceInit f fd) (o : OexC K C) (nF : PySem.W.findIn K (.ref C) "place" = some none) : FnOk P w K mg base CX0 (k + 1) f fd ["self", "place"] (spErrInit C "place") := by
  refine F.ok scBadPlaceInit (fun vs H Q E h => ?_) (fun cdv A outer s H vs Q E hr h => ?_)
  · obtain ⟨a, f, rfl, _⟩ := h
    rfl
  obtain ⟨a, v, rfl, ha, q⟩ := h
  refine ⟨_, pss_one (ps_ost (pv 0) (pv 1)), ?_⟩
  exact ⟨_, rfl, _, rfl, a, C, rfl, o, nF, .inl ⟨ha, fun dx ndx dxa => q dx ndx dxa⟩⟩
def spLateOfG (C CP CB : Addr) : Sp := fun vs H Q E => ∃ (pg pdx sl l : Addr) (r : V) (kd : Bool) (xs : List V) (ts : List Th) (m : Nat) (sps : List Pl), vs = [.ref C, .ref pg, .ref l] ∧ H pg = some (.ins CP pdx [("rows_of", r), ("spots", .ref sl)]) ∧ PlsAt H sl sps ∧ H l = some (mkO kd xs) ∧ Paired (PhAt H m) xs ts ∧ ts.length ≤ 1000 ∧ (∀ t ∈ ts, OkT t) ∧ PlOk sps ∧
  (∀ gv : List Pl, ts.map placeT = gv.map some → (∀ p ∈ gv, p ∈ sps) → ∀ H' x dx l', Same H H' → H' x = some (.ins C dx (ltF (.ref pg) (.ref l'))) → PlsAt H' l' (sps.filter fun p => decide (p ∈ gv)) → H x = none → H l' = none → Q (.ref x) H') ∧
  (∀ (i : Nat) v t, xs[i]? = some v → ts[i]? = some t → inT t sps = false → (∀ j t', j < i → ts[j]? = some t' → inT t' sps = true) → ∀ H' d, Same H H' → H' d = none → E (.ref CB) (some d) (upd H' d (.xd [("place", v)])))
theorem ok_LateOfG {f fI C CP CB : Addr} {fd fdI : FuncData} {k : Nat} (F : Fun K "of" "Late.of" sLateOf f fd) (B : Bl mg) (PC : PCls K mg CP) (hk : 2 ≤ k) (M : Mk K C fI) (FI : FnOk P w K mg base CX0 1 fI fdI ["self", "program", "spots"] (spLateInit C)) (bI : Binds K fdI ["self", "program", "spots"] [])
    (gPlaceOf : Own P w K mg base 1 "place_of" ["thing"] spPlaceOfT) (eB : ErrT P w K mg base "BadPlace" "place" ["self", "place"] CB) : FnOk P w K mg base (L2N.CX P w) (k + 1) f fd ["cls", "program", "places"] (spLateOfG C CP CB) := by
  refine okN F scLateOf (fun vs H Q E h => ?_) (fun cdv A outer s H vs Q E hr h => ?_)
  · obtain ⟨pg, pdx, sl, l, r, kd, xs, ts, m, sps, rfl, _⟩ := h
    rfl
  obtain ⟨pg, pdx, sl, l, r, kd, xs, ts, m, sps, rfl, hpg, ⟨qs, hsl, hqs⟩, hl, hts, lts, okt, ok, q, qe⟩ := h
  refine ⟨_, (pss_cons (ps_set (i := 3) scLateOf.nd rfl (by first | exact Or.inl rfl | exact Or.inr rfl) (pe_lst pa_nil))
      (pss_cons (ps_for (L2.passes_of rfl) rfl (pi_seq (pv 2)) (pg_name (i := 4) scLateOf.nd rfl (by first | exact Or.inl rfl | exact Or.inr rfl)) (pss_cons (ps_set (i := 5) scLateOf.nd rfl (by first | exact Or.inl rfl | exact Or.inr rfl) (pe_own gPlaceOf (hr.mono (by omega)) (by rfl) (pa_cons (pv 4) pa_nil)))
      (pss_cons (ps_if (pt_cmpR (op_notInD (hu65 hr)) (pv 5) (pe_fld (pv 1) rfl) (by rfl)) (pss_one (ps_raiseE rfl eB (hr.mono (by omega)) (L2N.takes_of rfl rfl rfl rfl) (pa_cons (pv 4) pa_nil))) pss_nil)
      (pss_one (ps_expr (pe_bm PySem.F.plainAttrs_list PySem.F.slot_list_append PySem.F.type_list_append mt_append (pv 3) (pa_cons (pv 5) pa_nil)))))))
      (pss_one (ps_ret (pe_makeL (i := 0) M FI (hr.mono (by omega)) bI .nil pass0 (pa_cons (pv 1) (pa_cons (pe_lc (own := [("place", 5)]) (g := (gName 5)) (by rfl) scLateOf.nd (pi_list (pe_fld (pv 1) rfl)) (blkOk_by (own := [("place", 5)]) (N := ["cls", "program", "places", "some", "thing", "place"]) (sc := defScope sLateOf) (by decide +kernel)) (fun _ _ _ _ _ => (pg_name (i := 5) scLateOf.nd rfl (by first | exact Or.inl rfl | exact Or.inr rfl))) (fun _ _ _ _ _ => (pts_one (pt_cmpR (opK (K := K) rInD (op_inD (by exact hu65 hr)) rfl) (pv 5) (pv 3) (by rfl)))) (fun _ _ _ _ _ => (pv 5))) pa_nil))))))), ?_⟩
  have okb2 : ∀ p ∈ sps, p.2.length ≤ 1000000 := fun p hp => by have := (ok.2 p hp).1; omega
  have lxs : xs.length = ts.length := paired_len hts
  refine ⟨Nat.zero_le _, fun so nso => ?_⟩
  have s1 : Same H (upd H so (.lst [])) := Same.new nso
  have hso : (upd H so (.lst [])) so = some (.lst []) := upd_same
  generalize upd H so _ = H1 at *
  refine ⟨_, rfl, l, kd, xs, rfl, sq_of (s1 _ _ hl), ?_⟩
  refine for_it walk_seq (fun i σ H' => Same H H' ∧ (∃ v4 v5, σ = [some (.ref C), some (.ref pg), some (.ref l), some (.ref so), v4, v5]) ∧ ∃ (us : List Addr) (gv : List Pl), H' so = some (.lst (us.map V.ref)) ∧ Paired (PlAt H') us gv ∧ (ts.take i).map placeT = gv.map some ∧ (∀ p ∈ gv, p ∈ sps) ∧ us.length ≤ i)
    ⟨s1, ⟨_, _, rfl⟩, [], [], hso, .nil, rfl, by simp, by simp⟩ (fun i σ H' _ ⟨sm, _⟩ => sq_of (sm _ _ hl)) ?_ ?_
  · rintro i x σ H2 H3 hi ⟨sm, ⟨v4, v5, rfl⟩, us, gv, hus, hpu, egv, ingv, lus⟩ ⟨rfl, hx⟩
    have hi : i < xs.length := hi
    have hx : xs[i]? = some x := hx
    obtain ⟨t, ht, hph⟩ := paired_get hts hx
    have tm := List.mem_of_getElem? ht
    have good : ∀ j t', j < i → ts[j]? = some t' → inT t' sps = true := fun j t' hj ht' => by
      have h1 : (ts.take i)[j]? = some t' := by rw [List.getElem?_take, if_pos hj]; exact ht'
      have h2 : ((ts.take i).map placeT)[j]? = some (placeT t') := by rw [List.getElem?_map, h1]; rfl
      rw [egv, List.getElem?_map] at h2
      obtain ⟨p, hp, e⟩ := Option.map_eq_some_iff.mp h2
      unfold inT
      rw [← e]
      exact decide_eq_true (ingv p (List.mem_of_getElem? hp))
    refine ⟨_, rfl, x, t, m, rfl, hph.same sm, fun H4 u s4 hu => ?_⟩
    have s04 := Same.trans sm s4
    have hsl4 := s04 _ _ hsl
    have hqs4 := paired_imp hqs fun _ _ (q : PlAt H _ _) => q.to fun b xs e => s04 _ _ e
    refine ⟨_, rfl, _, rfl, pg, CP, pdx, _, _, rfl, s04 _ _ hpg, PC.cl, PC.nS, lk_spots _ _, ?_⟩
    have bad : inT t sps = false → ∀ (σ : L2.St), σ[4]? = some (some x) → tMkO CB (spErrInit CB "place") [] (tCons (tVar 4) tNil) σ H4 fun cls d H' => E cls d H' := fun hb σ hσ =>
      ⟨_, hσ, mkE fun d nd => qe i x t hx ht hb good H4 d s04 nd⟩
    rcases hu with ⟨rfl, e⟩ | ⟨t', p, rfl, e, hp⟩
    · refine none_notIn hsl4 hqs4 (by have := ok.1; omega) okb2 (fun p hp => (ok.2 p hp).2) ⟨_, rfl, iteT ?_⟩
      exact bad (by unfold inT; rw [e]) _ rfl
    · have okp := okt t tm p e
      refine notIn_pls hsl4 hqs4 (by have := ok.1; omega) okb2 (fun p hp => (ok.2 p hp).2) hp okp.1 (by omega) ⟨_, rfl, ?_⟩
      by_cases c : p ∈ sps
      · rw [decide_eq_true c]
        refine iteF ?_
        have hus4 := s4 _ _ hus
        refine ⟨_, rfl, .inl ⟨rfl, _, SqL.of hus4⟩, _, rfl, so, us.map V.ref, _, rfl, rfl, hus4, small (by rw [List.length_map]; omega), ?_⟩
        have tp : TupS H4 (upd H4 so (.lst (us.map V.ref ++ [.ref t']))) := TupS.put hus4 (by intro xs z; cases z)
        refine ⟨Same.upN s04 nso, ⟨_, _, rfl⟩, us ++ [t'], gv ++ [p], by rw [upd_same, List.map_append]; rfl, paired_app (hp.to fun b xs e => tp _ _ e) (paired_imp hpu fun _ _ q => q.to fun b xs e => tp _ _ (s4 _ _ e)), ?_, ?_, by rw [List.length_append, List.length_singleton]; omega⟩
        · rw [List.take_add_one, ht, List.map_append, egv, List.map_append]
          show _ ++ [placeT t] = _ ++ [some p]
          rw [e]
        · intro p' hp'
          rcases List.mem_append.mp hp' with hp' | hp'
          · exact ingv p' hp'
          · rw [List.mem_singleton.mp hp']; exact c
      · rw [decide_eq_false c]
        refine iteT ?_
        exact bad (by unfold inT; rw [e]; exact decide_eq_false c) _ rfl
  · rintro σ H2 ⟨sm, ⟨v4, v5, rfl⟩, us, gv, hus, hpu, egv, ingv, lus⟩
    rw [lxs, List.take_length] at egv
    have lqs : qs.length = sps.length := paired_len hqs
    have lgv : gv.length ≤ 1000 := by
      have := congrArg List.length egv
      rw [List.length_map, List.length_map] at this
      omega
    have okg : ∀ p ∈ gv, p.2.length ≤ 1000 ∧ PyData.strOk p.1 = true := fun p hp => ok.2 p (ingv p hp)
    refine ⟨rfl, _, rfl, _, rfl, pg, CP, pdx, _, _, rfl, sm _ _ hpg, PC.cl, PC.nS, lk_spots _ _, sl, rfl, ⟨_, SqL.of (sm _ _ hsl)⟩, fun L nL => ?_⟩
    refine lc_it walk_list (fun j H' => Same H2 H' ∧ ∃ ws : List Addr, H' L = some (.lst (ws.map V.ref)) ∧ Paired (PlAt H') ws ((sps.take j).filter fun x => decide (x ∈ gv)))
      ⟨Same.new nL, [], upd_same, .nil⟩ (fun j H' _ ⟨s3, _⟩ => SqL.of (s3 _ _ (sm _ _ hsl))) ?_ ?_
    · rintro j y H3 H4 hj ⟨s3, ws, hL, hws⟩ ⟨rfl, hy⟩
      rw [List.length_map] at hj
      rw [List.getElem?_map] at hy
      obtain ⟨t, ht, rfl⟩ := Option.map_eq_some_iff.mp hy
      obtain ⟨pl, hpl, hpt⟩ := paired_get hqs ht
      have mem := List.mem_of_getElem? hpl
      have s03 := Same.trans sm s3
      have hpt4 := hpt.to fun b xs e => s03 _ _ e
      have et : sps.take (j + 1) = sps.take j ++ [pl] := by rw [List.take_add_one, hpl]; rfl
      refine ⟨rfl, _, rfl, _, rfl, in_pls (s3 _ _ hus) (paired_imp hpu fun _ _ q => q.to fun b xs e => s3 _ _ e) (by omega) (fun p hp => by have := (okg p hp).1; omega) (fun p hp => (okg p hp).2) hpt4 (ok.2 pl mem).2 (okb2 pl mem) ⟨_, rfl, ?_⟩⟩
      rw [et, List.filter_append]
      by_cases c : pl ∈ gv
      · rw [decide_eq_true c]
        have lws : ws.length ≤ 1000 := by
          rw [paired_len hws]
          refine Nat.le_trans (List.length_filter_le _ _) ?_
          rw [List.length_take]
          have := ok.1
          omega
        refine iteT ⟨_, rfl, ws.map V.ref, hL, small (by rw [List.length_map]; omega), Same.upN s3 nL, ws ++ [t], by rw [upd_same, List.map_append]; rfl, ?_⟩
        have tp : TupS H4 (upd H4 L (.lst (ws.map V.ref ++ [.ref t]))) := TupS.put hL (by intro xs z; cases z)
        rw [List.filter_cons_of_pos (by simpa using c)]
        exact paired_app (hpt4.to fun b xs e => tp _ _ e) (paired_imp hws fun _ _ q => q.to fun b xs e => tp _ _ e)
      · rw [decide_eq_false c]
        refine iteF ⟨s3, ws, hL, ?_⟩
        rw [List.filter_cons_of_neg (by simpa using c), List.filter_nil, List.append_nil]
        exact hws
    · rintro H3 ⟨s3, ws, hL, hws⟩
      rw [List.length_map, lqs, List.take_length] at hws
      have s03 := Same.trans sm s3
      refine fun x dx nx ndx xdx => ?_
      have sI : Same H3 (upd (upd H3 dx (.own x)) x (.ins C dx [])) := fun b o e => by
        rw [upd_ne (ne_of_none e nx), upd_ne (ne_of_none e ndx)]; exact e
      refine ⟨x, dx, .ref pg, .ref L, rfl, upd_same, fun H' o => ⟨rfl, ?_⟩⟩
      have s3' : Same H3 H' := fun b o' e => o.fr _ _ (ne_of_none e nx) (sI _ _ e)
      exact q gv egv ingv H' x dx L (Same.trans s03 s3') o.at_ ⟨ws, s3' _ _ hL, paired_imp hws fun _ _ q => q.to fun b xs e => s3' _ _ e⟩ (Same.free s03 nx) (Same.free sm nL)
end
end Ft
set_option Elab.async false
set_option linter.all false
set_option maxRecDepth 100000
set_option maxHeartbeats 4000000
set_option pp.maxSteps 1500
set_option Elab.async false
set_option linter.all false
set_option maxRecDepth 100000
set_option maxHeartbeats 1000000
set_option pp.maxSteps 5000
set_option pp.deepTerms.threshold 10
namespace Ft
open PySem L2
def tCMethS (C : Addr) (sp : Sp) (E : L2.St → XK) (ta : TE) (t : TA) : TE := fun σ H Q => ta σ H fun x H1 => x = .ref C ∧ t σ H1 fun vs H2 => sp (.ref C :: vs) H2 Q (E σ)
theorem pe_cmethAt {X : Cx} {CX : CXT} {k : Nat} {C p g : Addr} {mc : Value} {fd : FuncData} {ps : List Str} {sp : Sp} {E : L2.St → XK} {m : Str} {pos apos : Pos} {o e : Expr} {es : List Expr} {ta : TE} {t : TA} {pl : Sem Bool} (he : PE X o ta) (r : ClX.CRead X.K C mc) (c : ClX.CMet X.K C mc m p g) (F : FnOk X.prog X.w X.K X.mg X.base CX k g fd ps sp) (hb : Binds X.K fd ps []) (hr : Room k X.A) (hx : ∀ σ, PassesAt CX X σ (E σ)) (ha : PA X (e :: es) t)
    (hst : starEach (e :: es) X.env = (false, eval e X.env) :: starEach es X.env := by rfl) (hpl : (backTo pos (starEach es X.env)).any (·.1) = false := by rfl)
    (ht : eval (.Call (.Attribute o m apos) (e :: es) [] pos) X.env = (do
      let y ← eval o X.env
      standAt apos.atName
      let (h, hd) ← holding [y] (getMethod y m pl)
      callWith pos h hd (backTo pos (starEach (e :: es) X.env)) (backToKw pos (keywordEach [] X.env))) := by rfl) :
    PE X (.Call (.Attribute o m apos) (e :: es) [] pos) (tCMethS C sp E ta t) := by
  refine ⟨fun pins s σ H Q I h => PySem.W.methodCall_KW (pl := pl) (thn (he.run pins s σ H _ I h) fun u s1 ⟨y, H1, I1, ry, ey, q⟩ => ?_) ht⟩
  subst ey
  obtain rfl : u = Value.ref C := ry
  refine ClX.getmethcm_ok I1 r c fun s2 I2 => ClX.callwith_cm I2 (ClX.base_none I1 (Nat.le_refl _)) c.fi (thn (ha.run pos _ s2 σ H1 _ I2 q) fun us s3 ⟨vs, H2, I3, rv, q2⟩ => ⟨⟨ClX.pin_at I3, I3.kIn⟩, ?_⟩) hst hpl
  have lv : (Value.ref C :: us).length = ps.length := by
    rw [← F.len _ _ _ _ q2, List.length_cons, List.length_cons, rv.length]
  have bd := hb s3 (.ref C :: us) I3.kIn (by rw [List.append_nil]; exact lv)
  rw [List.append_nil] at bd
  have run : codeAny (model X.prog X.w) X.A (.call (.ref g) ⟨.ref C :: us, []⟩) (fun r s' => match r with | .ok (.ret v) => EP X _ σ Q v s' | .ok _ => False | .error e => X.xe e s') s3 :=
    codeAny_mono (F.run X.A X.stack s3 H2 ⟨.ref C :: us, []⟩ (.ref C :: us) (.ref C :: vs) Q (E σ) hr I3.env0 bd (.cons rfl rv) q2) fun r s' hq => match r, hq with
      | .error e, hq => hx σ _ H2 s3 e s' I3 hq
      | .ok (.ret u), hq => I3.after hq
      | .ok .next, hq => hq.elim
      | .ok .brk, hq => hq.elim
      | .ok .cont, hq => hq.elim
  exact thn (wpAny_call (PySem.W.method_call (ClX.pin_at I3) run)) fun _ _ y => ClX.unpinE y
section
variable {P : PySem.Program} {w : World} {K : PySem.W.Frag} {mg : Str → Option Value} {base : Heap}
abbrev sLRefused : Stmt := topS 52
theorem scLRefused : FnScope ["_law_made", "_law_things", "_law_found", "e"] ["_law_made", "_law_things"] (defScope sLRefused) := ⟨rfl, rfl, rfl, by decide +kernel, rfl, by decide +kernel, by decide +kernel⟩
/-- what Late.of is asked -/
structure OfIn (CP : Addr) (H : Hp) (pg l : Addr) (kd : Bool) (xs : List V) (ts : List Th) (sps : List Pl) : Prop where
  pg : ∃ pdx sl r, H pg = some (.ins CP pdx [("rows_of", r), ("spots", .ref sl)]) ∧ PlsAt H sl sps
  l : H l = some (mkO kd xs)
  hx : ∃ m, Paired (PhAt H m) xs ts
  few : ts.length ≤ 1000
  okt : ∀ t ∈ ts, OkT t
  ok : PlOk sps
theorem OfIn.same {CP : Addr} {H H' : Hp} {pg l : Addr} {kd : Bool} {xs : List V} {ts : List Th} {sps : List Pl} (h : OfIn CP H pg l kd xs ts sps) (s : Same H H') : OfIn CP H' pg l kd xs ts sps := by
  obtain ⟨⟨pdx, sl, r, h1, h2⟩, h3, ⟨m, h4⟩, h5, h6, h7⟩ := h
  exact ⟨⟨pdx, sl, r, s _ _ h1, h2.same s⟩, s _ _ h3, ⟨m, paired_imp h4 fun _ _ q => q.same s⟩, h5, h6, h7⟩
def spLRefused (CP : Addr) : Sp := fun vs H Q _ => ∃ (pg l : Addr) (kd : Bool) (xs : List V) (ts : List Th) (sps : List Pl), vs = [.ref pg, .ref l] ∧ OfIn CP H pg l kd xs ts sps ∧
  ((∀ t ∈ ts, inT t sps = true) → ∀ H' m, Same H H' → H' m = some (.lst []) → Q (.ref m) H') ∧
  (∀ (i : Nat) v t, xs[i]? = some v → ts[i]? = some t → inT t sps = false → (∀ j t', j < i → ts[j]? = some t' → inT t' sps = true) → ∀ H' m, Same H H' → H' m = some (.lst [v]) → Q (.ref m) H')
theorem all_gv {ts : List Th} {sps : List Pl} : ∀ {gv : List Pl}, ts.map placeT = gv.map some → (∀ p ∈ gv, p ∈ sps) → ∀ t ∈ ts, inT t sps = true := by
  intro gv e h t ht
  have : placeT t ∈ ts.map placeT := List.mem_map.mpr ⟨t, ht, rfl⟩
  rw [e] at this
  obtain ⟨p, hp, ep⟩ := List.mem_map.mp this
  unfold inT
  rw [← ep]
  exact decide_eq_true (h p hp)
theorem ok_LRefused {f CL CP CB po fo : Addr} {mc : Value} {fd fdo : FuncData} {k : Nat} (F : Fun K "_law_refused" "_law_refused" sLRefused f fd) (B : Bl mg) (hk : 4 ≤ k) (gLate : mg "Late" = some (.ref CL)) (CR : ClX.CRead K CL mc) (CM : ClX.CMet K CL mc "of" po fo)
    (FE : FnOk P w K mg base (L2N.CX P w) 3 fo fdo ["cls", "program", "places"] (spLateOfG CL CP CB)) (bE : Binds K fdo ["cls", "program", "places"] []) (eB : ErrT P w K mg base "BadPlace" "place" ["self", "place"] CB) (xm : PySem.W.exmOne K (.ref CB) (.ref CB) = some true) : FnOk P w K mg base CX0 (k + 1) f fd ["_law_made", "_law_things"] (spLRefused CP) := by
  refine F.ok scLRefused (fun vs H Q E h => ?_) (fun cdv A outer s H vs Q E hr h => ?_)
  · obtain ⟨pg, l, kd, xs, ts, sps, rfl, _⟩ := h
    rfl
  obtain ⟨pg, l, kd, xs, ts, sps, rfl, h, q1, q2⟩ := h
  refine ⟨_, (pss_cons (ps_set (i := 2) scLRefused.nd rfl (by first | exact Or.inl rfl | exact Or.inr rfl) (pe_lst pa_nil))
      (pss_cons (ps_try_asM rfl rfl scLRefused.nd L2.takes0 (fun W pn xe tk _ => by exact (pss_one (ps_expr (pe_cmethAt (pe_glob (v := .ref CL) (by rfl) gLate rfl) CR CM (fn_N FE) bE (hr.mono (by omega)) (fun σ => L2.passAt tk σ) (pa_cons (pv 0) (pa_cons (pv 1) pa_nil)))))) (.cons (i := 3) rfl rfl ⟨rfl, by decide, .inl eB.g⟩ (fun a oe cls d pn hz hf => by exact (pss_one (ps_set (i := 2) scLRefused.nd rfl (by first | exact Or.inl rfl | exact Or.inr rfl) (pe_lst (pa_cons (pe_xf eB.xf eB.nF hz hf (pv 3)) pa_nil))))) .nil))
      (pss_one (ps_ret (pv 2))))), ?_⟩
  refine ⟨Nat.zero_le _, fun f0 nf0 => ?_⟩
  have s0 : Same H (upd H f0 (.lst [])) := Same.new nf0
  have hf0 : (upd H f0 (.lst [])) f0 = some (.lst []) := upd_same
  replace h := h.same s0
  generalize upd H f0 _ = H0 at *
  obtain ⟨⟨pdx, sl, r, hpg, hsl⟩, hl, ⟨m, hts⟩, few, okt, ok⟩ := h
  refine ⟨rfl, _, rfl, _, rfl, pg, pdx, sl, l, r, kd, xs, ts, m, sps, rfl, hpg, hsl, hl, hts, few, okt, ok, fun gv e ing H' x dx l' sm hx hl' nx nl' => ?_, fun i v t hx ht hb good H' d sm nd => ?_⟩
  · exact ⟨_, rfl, q1 (all_gv e ing) H' f0 (Same.trans s0 sm) (sm _ _ hf0)⟩
  · refine .inl ⟨xm, fun a na => ?_⟩
    refine ⟨_, rfl, rfl, rfl, d, _, v, rfl, upd_same, rfl, (by show 1 ≤ sizeLine; decide), fun m' nm => ?_⟩
    have sd : Same H' (upd H' d (.xd [("place", v)])) := Same.new nd
    have sm' : Same (upd H' d (.xd [("place", v)])) (upd (upd H' d (.xd [("place", v)])) m' (.lst [v])) := Same.new nm
    exact ⟨_, rfl, q2 i v t hx ht hb good _ m' (Same.trans s0 (Same.trans sm (Same.trans sd sm'))) upd_same⟩
end
end Ft
set_option Elab.async false
set_option linter.all false
set_option maxRecDepth 100000
set_option maxHeartbeats 1000000
set_option pp.maxSteps 5000
set_option pp.deepTerms.threshold 10
namespace Ft
section
open PySem PySem.Spec L2 PySem.W
variable {prog : PySem.Program} {w : World} {A : Around} {E : Value → Shared → Prop} {s : Shared} {K : Frag} {x C : Addr} {ox : Obj} {od : Option Obj}
theorem rc_eq_same (X : K.In s.heap) (I : InstAt s.heap x ox C od) (hC : PlainEq K C) (hu : A.units + 1 < cLine) {Q : Value → Shared → Prop} (hq : Q (.bool true) s) : wpAny (model prog w) A (richCompare .Eq (.ref x) (.ref x)) Q E s := by
  unfold richCompare
  simp only [oneThing_ref]
  refine wpAny_holding (wpAny_bind (wpAny_cRoomFor (by omega) ?_))
  rw [cmpInfo_Eq]
  dsimp only
  refine wpAny_bind (I.type.here (wpAny_bind (I.type.here ?_)))
  rw [show (Value.ref C != Value.ref C) = false from by simp]
  simp only [Bool.false_eq_true, if_false]
  refine wpAny_bind (wpAny_pure ?_)
  simp only [Bool.false_eq_true, if_false]
  refine wpAny_bind ?_
  simp only [tryCompare]
  refine wpAny_bind (ifBoundB_K X I hC.eq F.cmp_object.eq (wpAny_call (codeAny_call_builtin F.cmp_object.eq.plain F.cmpEntry_eq (checkB_K F.cmpKind_eq F.cmpSplit_eq (F.cmpArgs_eq _ _) X I hC.sub (objEq_entry_same ?_)))))
  first | exact wpAny_pure (wpAny_pure hq) | exact wpAny_pure hq
end
open PySem L2
def rEqI (C : Addr) : R2 := fun x y H Q => ∃ (a b dx dy : Addr) (fs gs : List (Str × V)), x = .ref a ∧ y = .ref b ∧ H a = some (.ins C dx fs) ∧ H b = some (.ins C dy gs) ∧ Q (.bl (decide (a = b))) H
theorem op_eqI {X : Cx} {C : Addr} (hC : PlainEq X.K C) (hu : X.A.units + 64 < cLine) : OpR X (compareOp .Eq) (rEqI C) := by
  intro pins s σ H x y v u Q I rx ry h
  obtain ⟨a, b, dx, dy, fs, gs, rfl, rfl, ha, hb, q⟩ := h
  by_cases e : a = b
  · subst e
    rw [decide_eq_true rfl] at q
    cases rx
    cases ry
    obtain ⟨mA, J, _⟩ := ins_get I.hok ha
    obtain ⟨od, J, _⟩ := J.look
    obtain ⟨m, hF⟩ := I.fr
    unfold compareOp
    exact rc_eq_same I.kIn J hC (by omega) (fin_bl I q rfl)
  · rw [decide_eq_false e] at q
    exact op_eqOther hC hu pins s σ H _ _ v u Q I rx ry ⟨a, b, dx, dy, fs, gs, rfl, rfl, e, ha, hb, q⟩
theorem fn_wk {CX : CXT} {P : PySem.Program} {w : World} {K : PySem.W.Frag} {mg : Str → Option Value} {base : Heap} {k : Nat} {f : Addr} {fd : FuncData} {ps : List Str} {s1 s2 : Sp} (h : FnOk P w K mg base CX k f fd ps s1) (hs : ∀ vs H Q E, s2 vs H Q E → s1 vs H Q E) : FnOk P w K mg base CX k f fd ps s2 :=
  ⟨fun vs H Q E s => h.len vs H Q E (hs _ _ _ _ s), fun A outer s H args us vs Q E hr e0 hb r q => h.run A outer s H args us vs Q E hr e0 hb r (hs _ _ _ _ q)⟩
theorem paired_perm {α β : Type} {R : α → β → Prop} : ∀ {xs ys : List α}, ys.Perm xs → ∀ {ps : List β}, Paired R xs ps → ∃ qs : List β, qs.Perm ps ∧ Paired R ys qs := by
  intro xs ys h
  induction h with
  | nil => intro ps hp; exact ⟨ps, List.Perm.refl _, hp⟩
  | cons x _ ih =>
    intro ps hp
    cases hp with
    | cons r t =>
      obtain ⟨qs, h1, h2⟩ := ih t
      exact ⟨_ :: qs, h1.cons _, .cons r h2⟩
  | swap x y l =>
    intro ps hp
    cases hp with
    | cons r t =>
      cases t with
      | cons r2 t => exact ⟨_ :: _ :: _, List.Perm.swap _ _ _, .cons r2 (.cons r t)⟩
  | trans _ _ ih1 ih2 =>
    intro ps hp
    obtain ⟨qs, h1, h2⟩ := ih2 hp
    obtain ⟨rs, h3, h4⟩ := ih1 h2
    exact ⟨rs, h3.trans h1, h4⟩
section
variable {P : PySem.Program} {w : World} {K : PySem.W.Frag} {mg : Str → Option Value} {base : Heap}
/-- Late.of of right places -/
def spLateOfR (C CP : Addr) : Sp := fun vs H Q _ => ∃ (pg l : Addr) (kd : Bool) (xs : List V) (ts : List Th) (sps gv : List Pl), vs = [.ref C, .ref pg, .ref l] ∧ OfIn CP H pg l kd xs ts sps ∧ ts.map placeT = gv.map some ∧ (∀ p ∈ gv, p ∈ sps) ∧
  ∀ H' x dx l', Same H H' → H' x = some (.ins C dx (ltF (.ref pg) (.ref l'))) → PlsAt H' l' (sps.filter fun p => decide (p ∈ gv)) → H x = none → H l' = none → Q (.ref x) H'
theorem some_inj {a b : List Pl} (h : a.map some = b.map some) : a = b := by
  induction a generalizing b with
  | nil => cases b with
    | nil => rfl
    | cons _ _ => cases h
  | cons x a ih => cases b with
    | nil => cases h
    | cons y b =>
      simp only [List.map_cons, List.cons.injEq, Option.some.injEq] at h
      rw [h.1, ih h.2]
theorem ok_LateOfR {f C CP CB : Addr} {fd : FuncData} {k : Nat} {ps : List Str} (h : FnOk P w K mg base (L2N.CX P w) k f fd ps (spLateOfG C CP CB)) : FnOk P w K mg base CX0 k f fd ps (spLateOfR C CP) := by
  refine fn_calm (fn_wk h fun vs H Q E hs => ?_) (fun vs H Q E h => h)
  obtain ⟨pg, l, kd, xs, ts, sps, gv, rfl, ⟨⟨pdx, sl, r, hpg, hsl⟩, hl, ⟨m, hts⟩, few, okt, ok⟩, egv, ingv, q⟩ := hs
  refine ⟨pg, pdx, sl, l, r, kd, xs, ts, m, sps, rfl, hpg, hsl, hl, hts, few, okt, ok, fun gv' e' in' => ?_, fun i v t hx ht hb _ => ?_⟩
  · have : gv' = gv := some_inj (e'.symm.trans egv)
    rw [this]
    exact q
  · have := all_gv egv ingv t (List.mem_of_getElem? ht)
    rw [this] at hb
    cases hb
abbrev sLHanded : Stmt := topS 40
theorem scLHanded : FnScope ["_law_source_here", "_law_codes"] ["_law_source_here", "_law_codes"] (defScope sLHanded) := ⟨rfl, rfl, rfl, by decide +kernel, rfl, by decide +kernel, by decide +kernel⟩
def spLHandedL : Sp := fun vs H Q _ => ∃ (a p : Addr) (n : Int) (xs : List V), vs = [.ref a, .ref p] ∧ Src H a n ∧ n < 2 ^ 39 ∧ p ≠ a ∧ H p = some (.lst xs) ∧
  ∀ H' t kd n', Fr (· ≠ a) H H' → Src H' a n' → n ≤ n' → n' ≤ n + 1 → H t = none → H' t = some (mkO kd xs) → Q (.ref t) H'
theorem ok_LHandedL {f : Addr} {fd : FuncData} {k : Nat} (F : Fun K "_law_handed" "_law_handed" sLHanded f fd) (B : Bl mg) (hk : 1 ≤ k) (gLDraw : Own P w K mg base 1 "_law_draw" ["_law_source_here", "_law_many"] spLDraw) : FnOk P w K mg base CX0 (k + 1) f fd ["_law_source_here", "_law_codes"] spLHandedL := by
  refine F.ok scLHanded (fun vs H Q E h => ?_) (fun cdv A outer s H vs Q E hr h => ?_)
  · obtain ⟨a, p, n, xs, rfl, _⟩ := h
    rfl
  obtain ⟨a, p, n, xs, rfl, sr, hn, pa, hp, q⟩ := h
  refine ⟨_, (pss_one (ps_ret (pe_ix ix_list (pe_lst (pa_cons (pe_callTy call_tuple_of (by rfl) B.tuple (by decide +kernel) (pa_cons (pv 1) pa_nil)) (pa_cons (pe_callTy call_list_of (by rfl) B.list (by decide +kernel) (pa_cons (pv 1) pa_nil)) pa_nil))) (pe_own gLDraw (hr.mono (by omega)) (by rfl) (pa_cons (pv 0) (pa_cons pe_int pa_nil))) (fun _ _ => rfl)))), ?_⟩
  refine ⟨_, rfl, p, xs, rfl, ?_⟩
  refine .inl ⟨SqL.of hp, fun t1 nt1 => ?_⟩
  have s1 : Same H (upd H t1 (.tup xs)) := Same.new nt1
  have h1 : (upd H t1 (.tup xs)) t1 = some (.tup xs) := upd_same
  generalize upd H t1 _ = H1 at *
  refine ⟨_, rfl, p, xs, rfl, .inl (SqL.of (s1 _ _ hp)), fun l1 nl1 => ⟨(by show 2 ≤ sizeLine; decide), fun L nL => ?_⟩⟩
  have s2 : Same H1 (upd H1 l1 (.lst xs)) := Same.new nl1
  have h2 : (upd H1 l1 (.lst xs)) l1 = some (.lst xs) := upd_same
  generalize upd H1 l1 _ = H2 at *
  have s3 : Same H2 (upd H2 L (.lst [.ref t1, .ref l1])) := Same.new nL
  have h3 : (upd H2 L (.lst [.ref t1, .ref l1])) L = some (.lst [.ref t1, .ref l1]) := upd_same
  generalize upd H2 L _ = H3 at *
  have s03 := Same.trans s1 (Same.trans s2 s3)
  have sr3 := sr.fr (ok := fun _ => True) (Fr.same s03) trivial
  refine ⟨_, rfl, a, 2, n, rfl, sr3, by omega, by decide, by decide, fun HA way fA srA w0 w2 => ?_⟩
  have La : L ≠ a := sr.nn (Same.free (Same.trans s1 s2) nL)
  have t1a : t1 ≠ a := sr.nn nt1
  have l1a : l1 ≠ a := sr.nn (Same.free s1 nl1)
  have e : way = 0 ∨ way = 1 := by omega
  have hLA := fA _ _ La h3
  rcases e with rfl | rfl
  · refine ⟨L, _, 0, _, rfl, rfl, SqL.of hLA, rfl, ?_⟩
    exact q HA t1 false (n + 1) ((Fr.same s03).trans fA) srA (by omega) (by omega) nt1 (fA _ _ t1a (s3 _ _ (s2 _ _ h1)))
  · refine ⟨L, _, 1, _, rfl, rfl, SqL.of hLA, rfl, ?_⟩
    exact q HA l1 true (n + 1) ((Fr.same s03).trans fA) srA (by omega) (by omega) (Same.free s1 nl1) (fA _ _ l1a (s3 _ _ h2))
end
end Ft
set_option Elab.async false
set_option linter.all false
set_option maxRecDepth 100000
set_option maxHeartbeats 1000000
namespace Ft
open PySem L2
theorem blocks_in {d : Nat} {wi : Bool} {r : Row} (h : RowOk (d + 1) wi r) {b : List Row} (hb : b ∈ blocks r) : b.length ≤ 24 ∧ ∃ wi', ∀ r' ∈ b, RowOk d wi' r' := by
  cases r with
  | plain w fs => cases hb
  | make n c =>
    rw [List.mem_singleton.mp hb]
    exact ⟨h.2.2.1, true, h.2.2.2⟩
  | when n c e =>
    rcases List.mem_cons.mp hb with rfl | hb
    · exact ⟨h.2.1, wi, h.2.2.2.1⟩
    · rw [List.mem_singleton.mp hb]; exact ⟨h.2.2.1, wi, h.2.2.2.2⟩
  | try_ c e =>
    rcases List.mem_cons.mp hb with rfl | hb
    · exact ⟨h.1, wi, h.2.2.1⟩
    · rw [List.mem_singleton.mp hb]; exact ⟨h.2.1, wi, h.2.2.2⟩
theorem blocks_few (r : Row) : (blocks r).length ≤ 2 := by cases r <;> simp [blocks]
theorem rowW_suf : ∀ (d : Nat) (path : List Int) (wi : Bool) (r : Row) (k : Nat), RowOk d wi r → k < 24 → ∀ q ∈ rowW d path (r, k), ∃ t : List Int, q.1 = path ++ ((k : Int) :: t) ∧ t.length % 2 = 0 ∧ (∀ x ∈ t, 0 ≤ x ∧ x < 24) ∧ (t = [] → q.2 = r) := by
  intro d
  induction d with
  | zero =>
    intro path wi r k h hk q hq
    rw [List.mem_singleton.mp hq]
    exact ⟨[], rfl, rfl, by simp, fun _ => rfl⟩
  | succ d ih =>
    intro path wi r k h hk q hq
    have hq' : q ∈ (path ++ [(k : Int)], r) :: (blocks r).zipIdx.flatMap (fun q => q.1.zipIdx.flatMap (rowW d (path ++ [(k : Int), (q.2 : Int)]))) := hq
    rcases List.mem_cons.mp hq' with e | hq'
    · rw [e]; exact ⟨[], rfl, rfl, by simp, fun _ => rfl⟩
    · obtain ⟨⟨b, i⟩, hb, hq⟩ := List.mem_flatMap.mp hq'
      obtain ⟨⟨r', k'⟩, hr', hq⟩ := List.mem_flatMap.mp hq
      have hb2 : (blocks r)[i]? = some b := (List.mem_zipIdx_iff_getElem? (x := (b, i))).mp hb
      have hr2 : b[k']? = some r' := (List.mem_zipIdx_iff_getElem? (x := (r', k'))).mp hr'
      have hbm := List.mem_of_getElem? hb2
      have hrm := List.mem_of_getElem? hr2
      obtain ⟨lb, wi', hw⟩ := blocks_in h hbm
      have hi2 : i < 2 := by
        have := (List.getElem?_eq_some_iff.mp hb2).1
        have := blocks_few r
        omega
      have hk2 : k' < 24 := by
        have := (List.getElem?_eq_some_iff.mp hr2).1
        omega
      obtain ⟨t, e, h1, h2, _⟩ := ih _ wi' r' k' (hw _ hrm) hk2 q hq
      refine ⟨(i : Int) :: (k' : Int) :: t, by rw [e]; simp, by simp; omega, ?_, fun z => nomatch z⟩
      intro x hx
      rcases List.mem_cons.mp hx with rfl | hx
      · omega
      · rcases List.mem_cons.mp hx with rfl | hx
        · omega
        · exact h2 x hx
/-- a place of a library of few rows -/
structure PlcIn (lib : Lib) (p : Str × List Int) : Prop where
  ex : ∃ (rs : List Row) (r : Row) (k : Nat) (t : List Int), (p.1, rs) ∈ lib ∧ rs[k]? = some r ∧ p.2 = (k : Int) :: t ∧ t.length % 2 = 0 ∧ (∀ x ∈ t, 0 ≤ x ∧ x < 24) ∧ k < 24 ∧ (t = [] → isImp r = true)
theorem spots_plc {lib : Lib} (ok : ∀ m ∈ lib, m.2.length ≤ 24 ∧ ∀ r ∈ m.2, RowOk 3 false r) {p : Str × List Int} (h : p ∈ spotsL lib) : PlcIn lib p := by
  obtain ⟨m, hm, hq⟩ := List.mem_flatMap.mp h
  unfold spotsM at hq
  obtain ⟨w, hw, e⟩ := List.mem_map.mp hq
  obtain ⟨hw2, himp⟩ := List.mem_filter.mp hw
  obtain ⟨⟨r, k⟩, hr, hp⟩ := List.mem_flatMap.mp hw2
  have hr2 : m.2[k]? = some r := (List.mem_zipIdx_iff_getElem? (x := (r, k))).mp hr
  have hk : k < 24 := by
    have := (List.getElem?_eq_some_iff.mp hr2).1
    have := (ok m hm).1
    omega
  obtain ⟨t, e2, h1, h2, h3⟩ := rowW_suf 3 [] false r k ((ok m hm).2 r (List.mem_of_getElem? hr2)) hk w hp
  rw [← e]
  refine ⟨m.2, r, k, t, hm, hr2, e2, h1, h2, hk, fun z => ?_⟩
  rw [← h3 z]
  exact himp
section
variable {lib : Lib} {z : Str} {p : List Int}
theorem PlcIn.odd (h : PlcIn lib (z, p)) : p.length % 2 = 1 := by
  obtain ⟨rs, r, k, t, _, _, e, h1, _⟩ := h.ex
  have e : p = (k : Int) :: t := e
  rw [e, List.length_cons]
  omega
theorem PlcIn.step (h : PlcIn lib (z, p)) : ∀ x ∈ p, 0 ≤ x ∧ x < 24 := by
  obtain ⟨rs, r, k, t, _, _, e, _, h2, hk, _⟩ := h.ex
  have e : p = (k : Int) :: t := e
  intro x hx
  rw [e] at hx
  rcases List.mem_cons.mp hx with rfl | hx
  · omega
  · exact h2 x hx
theorem PlcIn.name (h : PlcIn lib (z, p)) : z ∈ lib.map (·.1) := by
  obtain ⟨rs, _, _, _, hm, _⟩ := h.ex
  exact List.mem_map.mpr ⟨_, hm, rfl⟩
/-- a place of one step is a row that loads or picks -/
theorem PlcIn.one {k : Int} (h : PlcIn lib (z, [k])) {rs : List Row} (nd : (lib.map (·.1)).Nodup) (hm : (z, rs) ∈ lib) : 0 ≤ k ∧ ∃ r, rs[k.toNat]? = some r ∧ isImp r = true := by
  obtain ⟨rs', r, j, t, hm', hr, e, _, _, _, hi⟩ := h.ex
  have e : [k] = (j : Int) :: t := e
  injection e with e1 e2
  have er : rs' = rs := by
    have go : ∀ l : Lib, (l.map (·.1)).Nodup → (z, rs') ∈ l → (z, rs) ∈ l → rs' = rs := by
      intro l
      induction l with
      | nil => intro _ h; cases h
      | cons m l ih =>
        intro nd h1 h2
        rw [List.map_cons, List.nodup_cons] at nd
        rcases List.mem_cons.mp h1 with h1 | h1 <;> rcases List.mem_cons.mp h2 with h2 | h2
        · exact (Prod.mk.inj (h1.trans h2.symm)).2
        · exact (nd.1 (List.mem_map.mpr ⟨_, h2, by rw [← h1]⟩)).elim
        · exact (nd.1 (List.mem_map.mpr ⟨_, h1, by rw [← h2]⟩)).elim
        · exact ih nd.2 h1 h2
    exact go lib nd hm' hm
  rw [e1, ← er]
  refine ⟨by omega, r, ?_, hi e2.symm⟩
  rw [Int.toNat_natCast]
  exact hr
end
end Ft
set_option Elab.async false
set_option linter.all false
set_option maxRecDepth 100000
set_option maxHeartbeats 1000000
set_option pp.maxSteps 5000
set_option pp.deepTerms.threshold 10
namespace Ft
open PySem PySem.Spec PyProof.Rows L2
def rDictR (K : PySem.W.Frag) : List V → Hp → VK → Prop := fun xs H Q => ∃ (a p1 p2 t : Addr) (z : Str) (v1 v2 : V) (ks : List Key), xs = [.ref a] ∧ H a = some (.lst [.ref p1, .ref p2]) ∧ H p1 = some (.tup [.str z, v1]) ∧ H p2 = some (.tup [.ref t, v2]) ∧ H t = some (.tup (ks.map kV)) ∧
  ∀ p, H p = none → Q (.ref p) (upd H p (OddE p z t))
section
variable {X : Cx}
theorem call_dictR (hcalm : X.calm = true) (hu : X.A.units + 32 < cLine) : CallR X (.type "dict") (rDictR X.K) := by
  intro pins s σ H xs us Q I r q
  obtain ⟨a, p1, p2, t, z, v1, v2, ks, rfl, ha, h1, h2, ht, q⟩ := q
  obtain ⟨u, rfl, rx⟩ := vals1 r
  cases rx
  obtain ⟨its, rv, pl, hz⟩ := I.list (SqL.of ha)
  obtain ⟨w1, w2, rfl, r1, r2⟩ := vals2 rv
  cases (show w1 = Value.ref p1 from r1)
  cases (show w2 = Value.ref p2 from r2)
  obtain ⟨its1, rv1, t1, _⟩ := I.tuple (SqT.of h1)
  obtain ⟨x1, y1, rfl, rx1, ry1⟩ := vals2 rv1
  obtain ⟨k0, rfl⟩ : ∃ k0, x1 = .str z k0 := rx1
  obtain ⟨its2, rv2, t2, _⟩ := I.tuple (SqT.of h2)
  obtain ⟨x2, y2, rfl, rx2, ry2⟩ := vals2 rv2
  cases (show x2 = Value.ref t from rx2)
  obtain ⟨o, n, ho, hc, hd, hdat⟩ := pl
  have kk := key_of I.hok ht
  obtain ⟨_, itT, _, hT⟩ := (show ObjOk X.prog X.w H s.heap t (.tup (ks.map kV)) from I.hok t _ ht)
  refine call_dict_arg (PairArg.list a #[.ref p1, .ref p2] (fun j => if j = 0 then p1 else p2) [(.str z k0, y1), (.ref t, y2)]) ⟨⟨o, n, ho, hc, hd, hdat⟩, rfl, fun j k v hj => ?_⟩ fun s1 e1 hdf ok1 => ?_
  · match j, hj with
    | 0, hj => cases hj; exact ⟨rfl, .inl t1⟩
    | 1, hj => cases hj; exact ⟨rfl, .inl t2⟩
  subst e1
  have np : H s.heap.objs.size = none := I.hok.fresh (Nat.le_refl _)
  have hm : (s.heap.objs.size == sysModules) = false := beq_eq_false_iff_ne.mpr (Nat.ne_of_gt I.big)
  have td : t ≠ s.heap.objs.size := fun e => by rw [e, np] at ht; cases ht
  obtain ⟨oT, hoT, _⟩ := hT
  have kAll : ∀ h : Heap, (∀ b o, b ≠ s.heap.objs.size → s.heap.get? b = some o → h.get? b = some o) → (∀ (P : PySem.Program) (w : World), (tupleKind (mixKind P w)).is h ks t) ∧ ∃ its, h.IsTuple t its := fun h k => by
    obtain ⟨_, its', r', o', g1, g2, n', g3⟩ := (show ObjOk X.prog X.w H s.heap t (.tup (ks.map kV)) from I.hok t _ ht)
    exact ⟨fun P w => ⟨o', its'.toArray, n', k _ _ td g1, g2, g3, by simpa using items_are r'⟩, _, o', k _ _ td g1, g2, n', g3⟩
  refine updateFrom_arg (A := X.A.in1) (d := s.heap.objs.size) (Tab := fun i h => (i = 0 ∧ h.DictOf (mixKind X.prog X.w) s.heap.objs.size [] ∨ i = 1 ∧ h.DictOf (mixKind X.prog X.w) s.heap.objs.size [(.inr z, y1)] ∨ i = 2 ∧ ∃ o ep t2 w1 w2 h1 h2, h.get? s.heap.objs.size = some o ∧ o.ExactDict ∧ o.data = .dict #[⟨h1, .str z t2, w1⟩, ⟨h2, .ref t, w2⟩] ep) ∧ ∀ b o, b ≠ s.heap.objs.size → s.heap.get? b = some o → h.get? b = some o)
    (PairArg.list a #[.ref p1, .ref p2] (fun j => if j = 0 then p1 else p2) [(.str z k0, y1), (.ref t, y2)]) .none (I.ok.hd hcalm) ok1 hdf ⟨.inl ⟨rfl, Heap.DictOf.new s.heap⟩, fun b o _ e => Heap.get?_push_of_some _ e⟩ ?_ ?_ ?_ ?_
  · rintro i h ⟨⟨_, g⟩ | ⟨_, g⟩ | ⟨_, o, ep, t2, w1, w2, h1, h2, g, _⟩, _⟩
    · exact g.lt_size
    · exact g.lt_size
    · exact Heap.lt_size g
  · intro i h h' wr' hd' hw ⟨g, k⟩ hk
    refine ⟨?_, fun b o hb e => hk b o (fun hmem => ?_) (k b o hb e)⟩
    · rcases g with ⟨e, g⟩ | ⟨e, g⟩ | ⟨e, o, ep, t2, w1, w2, h1, h2, g, g2⟩
      · exact .inl ⟨e, g.at' fun o e => hk _ o hd' e⟩
      · exact .inr (.inl ⟨e, g.at' fun o e => hk _ o hd' e⟩)
      · exact .inr (.inr ⟨e, o, ep, t2, w1, w2, h1, h2, hk _ _ hd' g, g2⟩)
    · rcases hw b hmem with h0 | h0
      · cases h0
      · have := Heap.get?_push_of_some { cls := .type "dict", data := .dict #[] } e
        rw [h0] at this
        cases this
  · rintro i key v s' Q' E' hi hrel ⟨g, k⟩ _ hQ
    have hrel : [(Value.str z k0, y1), (Value.ref t, y2)][i]? = some (key, v) := hrel
    rcases g with ⟨rfl, g⟩ | ⟨rfl, g⟩ | ⟨rfl, _⟩
    · cases hrel
      refine wpAny_dictSet_pairs (knd := mixKind X.prog X.w) (k := .inr z) (by show Value.isStrOf z (.str z k0) = true; unfold Value.isStrOf; simp) g (fun h' hm' hs => hQ h' _ ⟨.inr (.inl ⟨rfl, hm'⟩), fun b o hb e => hs.extBut b o hb (k b o hb e)⟩ hs) (by decide)
    · cases hrel
      obtain ⟨o, es, ep, ho, hc, hd, hks, hp, hn⟩ := g
      obtain ⟨e0, z2, t2, ek, e00, ez⟩ : ∃ e0 z2 t2, es = #[e0] ∧ e0.key = .str z2 t2 ∧ z2 = z := by
        obtain ⟨l⟩ := es
        have hp' : Pairs (mixKind X.prog X.w) l [(.inr z, y1)] := hp
        cases hp' with
        | cons g1 g2 g3 =>
          cases g3
          rename_i e0
          have g1' : keyIs (.inr z) e0.key = true := g1
          rcases keyIs_shape g1' with ⟨i, t', e1, _⟩ | ⟨x', t', e1, e2⟩
          · cases e1
          · injection e1 with e1
            exact ⟨e0, x', t', rfl, e2, e1.symm⟩
      subst ek
      obtain ⟨k1, itk, k2⟩ := kAll _ k
      subst ez
      obtain ⟨hh0, kk0, vv0⟩ := e0
      have e00 : kk0 = .str z2 t2 := e00
      subst e00
      refine set_ref (by show X.A.units + 1 + 1 + 8 < cLine; omega) ho hc hd (fun e' he' => ?_) (by show 1 ≤ sizeLine; decide) (k1 _ _) k2 fun h' o' hh tk g1 g2 g3 hs => hQ h' _ ⟨.inr (.inr ⟨rfl, o', _, t2, _, y2, hh0, hh, g1, g2, g3⟩), fun b o hb e => hs.extBut b o hb (k b o hb e)⟩ hs
      have : e' = ⟨hh0, .str z2 t2, vv0⟩ := by simpa using he'
      rw [this]
      exact ⟨_, _, rfl⟩
    · cases hrel
  · rintro h' tk ⟨g, k⟩ hk
    rcases g with ⟨e, _⟩ | ⟨e, _⟩ | ⟨_, o', ep, t2, w1, w2, h1, h2, g1, g2, g3⟩
    · cases e
    · cases e
    · refine ⟨rfl, .ref s.heap.objs.size, upd H s.heap.objs.size (OddE s.heap.objs.size z t), I.laid (t' := tk) (fun b o e => k b o (Nat.ne_of_lt (Heap.lt_size e)) e) (Nat.le_refl _) ?_, rfl, q _ np⟩
      exact ⟨⟨hm, o', ep, t2, w1, w2, h1, h2, g1, g2, g3⟩, ⟨_, g1⟩, fun ha hb ⟨q0, o2, ep2, u2, x1, x2, y1, y2, q1, q2, q3⟩ hkk => ⟨q0, o2, ep2, u2, x1, x2, y1, y2, hkk _ q1, q2, q3⟩⟩
end
end Ft
set_option Elab.async false
set_option linter.all false
set_option maxRecDepth 100000
set_option maxHeartbeats 1000000
set_option pp.maxSteps 5000
set_option pp.deepTerms.threshold 10
namespace Ft
open PySem L2
section
variable {Hb : Hp} {m n : Nat} {σ : L2.St} {te : TE} {ts : TA} {t : Th} {us us2 : List Th}
/-- the heap without what stands at X -/
noncomputable def dlX (X : Addr → Prop) (H : Hp) : Hp := fun b => by classical exact if X b then none else H b
theorem dl_at {X : Addr → Prop} {H : Hp} {b : Addr} {o : HO} (hb : ¬ X b) (h : H b = some o) : dlX X H b = some o := by
  unfold dlX
  rw [if_neg hb]; exact h
theorem dl_get {X : Addr → Prop} {H : Hp} {b : Addr} {o : HO} (h : dlX X H b = some o) : ¬ X b ∧ H b = some o := by
  unfold dlX at h
  split at h
  · cases h
  · rename_i hb
    exact ⟨hb, h⟩
theorem dl_same {X : Addr → Prop} {H H' : Hp} (s : Same H H') : Same (dlX X H) (dlX X H') := fun b o e => by
  obtain ⟨h1, h2⟩ := dl_get e
  exact dl_at h1 (s _ _ h2)
theorem dl_sub {X : Addr → Prop} {H : Hp} : Same (dlX X H) H := fun b o e => (dl_get e).2
theorem dl_less {X Y : Addr → Prop} {H : Hp} (h : ∀ b, Y b → X b) : Same (dlX X H) (dlX Y H) := fun b o e => by
  obtain ⟨h1, h2⟩ := dl_get e
  exact dl_at (fun y => h1 (h b y)) h2
theorem dl_but {Y : Addr → Prop} {H H' : Hp} (f : ∀ b o, ¬ Y b → H b = some o → H' b = some o) : Same (dlX Y H) (dlX Y H') := fun b o e => by
  obtain ⟨h1, h2⟩ := dl_get e
  exact dl_at h1 (f b o h1 h2)
theorem dl_fr {a : Addr} {H H' : Hp} (f : Fr (· ≠ a) H H') : Same (dlX (· = a) H) (dlX (· = a) H') := fun b o e => by
  obtain ⟨h1, h2⟩ := dl_get e
  exact dl_at h1 (f b o h1 h2)
variable {X : Addr → Prop}
def YP (X : Addr → Prop) (Hb : Hp) (m : Nat) (te : TE) (σ : L2.St) (t : Th) : Prop := ∀ (H : Hp) (Q : VK), Same Hb H → (∀ H' v, Same H H' → PhAt (dlX X H') m v t → Q v H') → te σ H Q
def YPs (X : Addr → Prop) (Hb : Hp) (m n : Nat) (ts : TA) (σ : L2.St) (us : List Th) : Prop := us.length ≤ n ∧ ∀ (H : Hp) (Q : List V → Hp → Prop), Same Hb H → (∀ H' vs, Same H H' → Paired (PhAt (dlX X H') m) vs us → Q vs H') → ts σ H Q
theorem yp_c {x : V} (h : smallT x = true) : YP X Hb m (tC x) σ (.at x) := fun H Q s q => q H x (Same.refl H) (phAt_at' h)
theorem yp_neg {i : Int} : YP X Hb m (tUn (rU fun i => .int (-i)) (tC (.int i))) σ (.at (.int (-i))) := fun H Q s q => ⟨i, rfl, q H _ (Same.refl H) (phAt_at' rfl)⟩
theorem yps_nil : YPs X Hb m n tNil σ [] := ⟨Nat.zero_le _, fun H Q s q => q H [] (Same.refl H) .nil⟩
theorem yps_cons (h1 : YP X Hb m te σ t) (h2 : YPs X Hb m n ts σ us) : YPs X Hb m (n + 1) (tCons te ts) σ (t :: us) :=
  ⟨Nat.succ_le_succ h2.1, fun H Q s q => h1 H _ s fun H1 v s1 hv => h2.2 H1 _ (Same.trans s s1) fun H2 vs s2 hvs => q H2 (v :: vs) (Same.trans s1 s2) (.cons (hv.same (dl_same s2)) hvs)⟩
theorem fresh_dl {H : Hp} {p : Addr} {o : HO} (hX : ∀ b, X b → Hb b ≠ none) (s : Same Hb H) (np : H p = none) : dlX X (upd H p o) p = some o := dl_at (fun h => hX p h (Same.free s np)) upd_same
theorem yp_tup (hX : ∀ b, X b → Hb b ≠ none) (h : YPs X Hb m 20 ts σ us) : YP X Hb (m + 1) (tTup ts) σ (.sq us) := fun H Q s q => h.2 H _ s fun H1 vs s1 hvs => by
  have l1 := h.1
  have l2 := paired_len hvs
  exact ⟨smallE (by omega), fun p np => q _ _ (Same.trans s1 (Same.new np)) ⟨p, false, vs, rfl, fresh_dl hX (Same.trans s s1) np, by omega, paired_imp hvs fun _ _ q => q.same (dl_same (Same.new np))⟩⟩
theorem yp_lst (hX : ∀ b, X b → Hb b ≠ none) (h : YPs X Hb m 20 ts σ us) : YP X Hb (m + 1) (tLst ts) σ (.sq us) := fun H Q s q => h.2 H _ s fun H1 vs s1 hvs => by
  have l1 := h.1
  have l2 := paired_len hvs
  exact ⟨smallE (by omega), fun p np => q _ _ (Same.trans s1 (Same.new np)) ⟨p, true, vs, rfl, fresh_dl hX (Same.trans s s1) np, by omega, paired_imp hvs fun _ _ q => q.same (dl_same (Same.new np))⟩⟩
theorem yp_dn (hX : ∀ b, X b → Hb b ≠ none) : YP X Hb m tDNewK σ .dc := fun H Q s q p np => q _ _ (Same.new np) (phAt_dc' (fresh_dl hX s np) (.inl ⟨_, rfl, by simp [FlatD]⟩))
theorem ph_flat {H : Hp} {m : Nat} {v : V} {t : Th} (h : PhAt H m v t) : flatB v = true ∨ ∃ b, v = .ref b := by
  cases t with
  | «at» x =>
    obtain ⟨rfl, hs⟩ := phAt_at h
    refine .inl ?_
    cases v with
    | int i => rfl
    | str z => rfl
    | bl b => rfl
    | non => rfl
    | _ => simp [smallT, isAtom] at hs
  | dc => obtain ⟨a, _, e, _⟩ := phAt_dc h; exact .inr ⟨a, e⟩
  | sq ts => obtain ⟨_, a, _, _, _, e, _⟩ := phAt_sq h; exact .inr ⟨a, e⟩
theorem yp_d1 {z : Str} (hX : ∀ b, X b → Hb b ≠ none) (h : YP X Hb m te σ t) : YP X Hb m (tDisp [(tC (.str z), te)]) σ .dc := fun H Q s q p np => h _ _ (Same.trans s (Same.new np)) fun H1 v s1 hv => by
  refine ⟨s1 _ _ upd_same, [(Sum.inr z, v)], rfl, by show 1 ≤ 15; decide, q _ _ (Same.upN (Same.trans (Same.new np) s1) np) (phAt_dc' (dl_at (fun h => hX p h (Same.free s np)) upd_same) (.inl ⟨_, rfl, fun p hp => by
    have hp : p ∈ [((Sum.inr z : Key), v)] := hp
    rw [List.mem_singleton.mp hp]
    exact ⟨by show valV [((Sum.inr z : Key), v)] (Sum.inr z) = some v; simp [valV], ph_flat hv⟩⟩))⟩
/-- a list of things is set: they stood before it did -/
theorem set_ph {i : Nat} {D' : Ends} {rest : TS} (hg : YPs X Hb m 20 ts σ us) (q : ∀ Hm c vs, Same Hb Hm → Hm c = none → Paired (PhAt (dlX X Hm) m) vs us → rest D' (σ.set i (some (.ref c))) (upd Hm c (.lst vs))) :
    tSeq (tAsg (tLst ts) (gName i)) rest D' σ Hb := hg.2 Hb _ (Same.refl _) fun H1 vs s1 hvs => by
  have l1 := hg.1
  have l2 := paired_len hvs
  exact ⟨smallE (by omega), fun p np => q _ p vs s1 np hvs⟩
theorem cat_ph {i j : Nat} {D' : Ends} {rest : TS} {c : Addr} {vs : List V} (hi : σ[i]? = some (some (.ref c))) (hc : Hb c = some (.lst vs)) (hv : Paired (PhAt (dlX X Hb) m) vs us) (hl : us.length ≤ 1000) (hg : YPs X Hb m 20 ts σ us2)
    (q : ∀ Hm c vs, Same Hb Hm → Hm c = none → Paired (PhAt (dlX X Hm) m) vs (us ++ us2) → rest D' (σ.set j (some (.ref c))) (upd Hm c (.lst vs))) :
    tSeq (tAsg (tOp rCat (tVar i) (tLst ts)) (gName j)) rest D' σ Hb := ⟨_, hi, hg.2 Hb _ (Same.refl _) fun H1 vs2 s1 hvs2 => by
  have l1 := hg.1
  have l2 := paired_len hvs2
  have l3 := paired_len hv
  refine ⟨smallE (by omega), fun p np => ?_⟩
  have s2 : Same H1 (upd H1 p (.lst vs2)) := Same.new np
  refine ⟨c, p, vs, vs2, rfl, rfl, s2 _ _ (s1 _ _ hc), upd_same, smallE (by omega), fun p2 np2 => ?_⟩
  exact q _ p2 _ (Same.trans s1 s2) np2 (paired_append (paired_imp hv fun _ _ q => q.same (dl_same (Same.trans s1 s2))) (paired_imp hvs2 fun _ _ q => q.same (dl_same s2)))⟩
end
def badP (p : Pl) : Bool := !(abcD.contains p.1) || (p.2.length % 2 == 0 || p.2.any fun x => decide (x < 0) || decide (24 ≤ x))
def odB (t : Th) : Bool := match placeT t with
  | none => true
  | some p => badP p && (PyData.strOk p.1 && decide (p.2.length ≤ 1000))
structure OdT (sps : List Pl) (t : Th) : Prop where
  no : ∀ p, placeT t = some p → p ∉ sps
  ok : OkT t
def SpsIn (lib : Lib) (sps : List Pl) : Prop := (∀ p ∈ sps, PlcIn lib p) ∧ ∀ z ∈ lib.map (·.1), z ∈ abcD
theorem badP_ok {lib : Lib} {sps : List Pl} (S : SpsIn lib sps) {p : Pl} (h : badP p = true) : p ∉ sps := fun hp => by
  have q : PlcIn lib (p.1, p.2) := S.1 p hp
  unfold badP at h
  rw [Bool.or_eq_true, Bool.or_eq_true] at h
  rcases h with h | h | h
  · have := S.2 _ q.name
    have hc : abcD.contains p.1 = true := by rw [List.contains_iff_mem]; exact this
    rw [hc] at h; cases h
  · have := q.odd
    have h := eq_of_beq h
    omega
  · obtain ⟨x, hx, hb⟩ := List.any_eq_true.mp h
    have := q.step x hx
    rw [Bool.or_eq_true, decide_eq_true_eq, decide_eq_true_eq] at hb
    omega
theorem odB_ok {lib : Lib} {sps : List Pl} (S : SpsIn lib sps) {t : Th} (h : odB t = true) : OdT sps t := by
  unfold odB at h
  refine ⟨fun p e => ?_, fun p e => ?_⟩
  · rw [e] at h
    exact badP_ok S (Bool.and_eq_true_iff.mp h).1
  · rw [e] at h
    have h2 := (Bool.and_eq_true_iff.mp (Bool.and_eq_true_iff.mp h).2)
    exact ⟨h2.1, of_decide_eq_true h2.2⟩
/-- .. and without what stands at c -/
noncomputable def dz (X : Addr → Prop) (c : Addr) (H : Hp) : Hp := dlX (fun b => b = c ∨ X b) H
theorem dz_to {X : Addr → Prop} {H H' : Hp} {c : Addr} (f : ∀ b o, b ≠ c → H b = some o → H' b = some o) : Same (dz X c H) (dz X c H') := fun b o e => by
  obtain ⟨h1, h2⟩ := dl_get e
  exact dl_at h1 (f b o (fun z => h1 (.inl z)) h2)
theorem dz_new {X : Addr → Prop} {H : Hp} {c : Addr} {o : HO} (n : H c = none) : Same (dlX X H) (dz X c (upd H c o)) := fun b o' e => by
  obtain ⟨h1, h2⟩ := dl_get e
  have hb : b ≠ c := ne_of_none h2 n
  exact dl_at (fun h => h.elim hb h1) (by rw [upd_ne hb]; exact h2)
theorem dz_sub {X : Addr → Prop} {H : Hp} {c : Addr} : Same (dz X c H) (dlX X H) := dl_less fun b h => .inr h
theorem dz_at {X : Addr → Prop} {H : Hp} {c b : Addr} {o : HO} (hb : b ≠ c) (hx : ¬ X b) (h : H b = some o) : dz X c H b = some o := dl_at (fun z => z.elim hb hx) h
end Ft
set_option Elab.async false
set_option linter.all false
set_option maxRecDepth 100000
set_option maxHeartbeats 1000000
set_option pp.maxSteps 5000
set_option pp.deepTerms.threshold 10
namespace Ft
open PySem L2
abbrev nT : Th := .at .non
abbrev iT (i : Int) : Th := .at (.int i)
abbrev sT (z : Str) : Th := .at (.str z)
def oddA : List Th := [nT, iT 5, .at (.bl true), sT "a", sT "", .sq [], .sq [], .dc, .sq [sT "a"], .sq [sT "zz", .sq [iT 0]], .sq [sT "a", .sq [iT 99]], .sq [sT "a", iT 0], .sq [sT "a", .sq [iT 0, iT 0]]]
def oddC : List Th := [.sq [sT "a", .sq [.at (.bl true)]], .sq [sT "b", .sq [.at (.bl false)]], .sq [sT "a", sT "0"], .dc, .sq [sT "a", .sq [iT 0], iT 1], .sq [.sq [sT "a"], .sq [iT 0]]]
def oddD : List Th := [.sq [sT "b", .sq [iT (-1)]], .sq [nT, .sq [iT 0]]]
def oddE : List Th := [.sq [sT "b", .sq []], .sq [sT "b", .sq [.sq [iT 0]]], .sq [sT "a", .dc], .sq [sT "a", .sq [iT 0, iT 0, iT 99]], .sq [sT "A", .sq [iT 0]], .sq [sT "b", .sq [nT]]]
theorem odd_ok : (oddA ++ oddC ++ oddD ++ oddE).all odB = true := by decide +kernel
theorem five_flat (path : List Int) : FlatD (mergeK [] (path.map fun i => ((Sum.inl i : Key), V.int 5))) := by
  have go : ∀ (path : List Int) (acc : List (Key × V)), (acc.map (·.1)).Nodup → (∀ p ∈ acc, p.2 = .int 5) → ((mergeK acc (path.map fun i => ((Sum.inl i : Key), V.int 5))).map (·.1)).Nodup ∧ ∀ p ∈ mergeK acc (path.map fun i => ((Sum.inl i : Key), V.int 5)), p.2 = .int 5 := by
    intro path
    induction path with
    | nil => intro acc h1 h2; exact ⟨h1, h2⟩
    | cons i path ih =>
      intro acc h1 h2
      show ((mergeK (putK acc (Sum.inl i) (.int 5)) _).map (·.1)).Nodup ∧ ∀ p ∈ mergeK (putK acc (Sum.inl i) (.int 5)) _, p.2 = .int 5
      by_cases hk : (Sum.inl i : Key) ∈ acc.map (·.1)
      · have e : putK acc (Sum.inl i) (.int 5) = acc := by
          unfold putK
          rw [if_pos (by
            obtain ⟨kv, hkv, e⟩ := List.mem_map.mp hk
            exact List.any_eq_true.mpr ⟨kv, hkv, by simpa using e⟩)]
          have : ∀ l : List (Key × V), (∀ p ∈ l, p.2 = .int 5) → (l.map fun kv => if kv.1 = (Sum.inl i : Key) then (kv.1, V.int 5) else kv) = l := by
            intro l
            induction l with
            | nil => intro _; rfl
            | cons p l ih =>
              intro h
              rw [List.map_cons, ih fun q hq => h q (by simp [hq])]
              congr 1
              by_cases c : p.1 = (Sum.inl i : Key)
              · rw [if_pos c]
                obtain ⟨p1, p2⟩ := p
                have h2 : p2 = .int 5 := h (p1, p2) (by simp)
                rw [h2]
              · rw [if_neg c]
          exact this acc h2
        rw [e]
        exact ih acc h1 h2
      · rw [putK_newA hk]
        refine ih _ ?_ ?_
        · rw [List.map_append, List.nodup_append]
          exact ⟨h1, by simp, fun x hx y hy e => by
            have : y = Sum.inl i := by simpa using hy
            rw [this] at e
            exact hk (e ▸ hx)⟩
        · intro p hp
          rcases List.mem_append.mp hp with hp | hp
          · exact h2 p hp
          · rw [List.mem_singleton.mp hp]
  obtain ⟨g1, g2⟩ := go path [] (by simp) (by simp)
  intro p hp
  obtain ⟨i, hi⟩ := List.mem_iff_getElem?.mp hp
  exact ⟨valV_at g1 hi, .inl (by rw [g2 p hp]; rfl)⟩
theorem pls_ph {H9 Hd : Hp} {m : Nat} (f : ∀ {T : Addr} {p : Pl}, PlAt H9 T p → p.1.length ≤ 1000 → p.2.length ≤ 100 → PhAt Hd m (.ref T) (plTh p)) {ws : List Addr} {ps : List Pl} (h : Paired (PlAt H9) ws ps) (b : ∀ p ∈ ps, p.1.length ≤ 1000 ∧ p.2.length ≤ 100) : Paired (PhAt Hd m) (ws.map V.ref) (ps.map plTh) := by
  induction h with
  | nil => exact .nil
  | @cons w p ws ps r _ ih => exact .cons (f r (b p (by simp)).1 (b p (by simp)).2) (ih fun q hq => b q (by simp [hq]))
theorem hu32d {A : Around} {k : Nat} (hr : Room k A) : A.units + 32 < cLine := by have := hr.un; omega
section
variable {P : PySem.Program} {w : World} {K : PySem.W.Frag} {mg : Str → Option Value} {base : Heap}
abbrev sLOddPlaces : Stmt := topS 50
theorem scLOddPlaces : FnScope ["_law_library_here", "_law_found", "_law_one", "_law_rows", "_law_k", "_law_row", "_law_module", "_law_path"] ["_law_library_here"] (defScope sLOddPlaces) := ⟨rfl, rfl, rfl, by decide +kernel, rfl, by decide +kernel, by decide +kernel⟩
def spLOddPlaces : Sp := fun vs H Q _ => ∃ (dl : Addr) (kvs : List (Key × V)) (lib : Lib) (ok : Addr → Prop), vs = [.ref dl] ∧ H dl = some (.dK kvs) ∧ DLb ok H kvs lib 13 ∧ NmsD (lib.map (·.1)) ∧
  ∀ H' m vs ts, Same H H' → H m = none → H' m = some (.lst vs) → Paired (PhAt (dlX (fun b => ∃ xs, H b = some (.lst xs)) H') 3) vs ts → ts.length ≤ 50 → 27 ≤ ts.length → (∀ libS : Lib, libS.Perm lib → PyProof.Rows.sortedS (libS.map (·.1)) = true → ∀ t ∈ ts, OdT (spotsL libS) t) → Q (.ref m) H'
theorem ok_LOddPlaces {f : Addr} {fd : FuncData} {k : Nat} (F : Fun K "_law_odd_places" "_law_odd_places" sLOddPlaces f fd) (B : Bl mg) (hk : 6 ≤ k) (gLPlaces : Own P w K mg base 6 "_law_places" ["_law_library_here"] spLPlaces) : FnOk P w K mg base CX0 (k + 1) f fd ["_law_library_here"] spLOddPlaces := by
  refine F.ok scLOddPlaces (fun vs H Q E h => ?_) (fun cdv A outer s H vs Q E hr h => ?_)
  · obtain ⟨dl, kvs, lib, ok, rfl, _⟩ := h
    rfl
  obtain ⟨dl, kvs, lib, ok, rfl, hd, DL, nms, q⟩ := h
  refine ⟨_, (pss_cons (ps_set (i := 1) scLOddPlaces.nd rfl (by first | exact Or.inl rfl | exact Or.inr rfl) (pe_lst (pa_cons pe_non (pa_cons pe_int (pa_cons pe_bl (pa_cons pe_str (pa_cons pe_str (pa_cons (pe_tup pa_nil) (pa_cons (pe_lst pa_nil) (pa_cons pe_dnewK (pa_cons (pe_tup (pa_cons pe_str pa_nil)) (pa_cons (pe_tup (pa_cons pe_str (pa_cons (pe_tup (pa_cons pe_int pa_nil)) pa_nil))) (pa_cons (pe_tup (pa_cons pe_str (pa_cons (pe_tup (pa_cons pe_int pa_nil)) pa_nil))) (pa_cons (pe_tup (pa_cons pe_str (pa_cons pe_int pa_nil))) (pa_cons (pe_tup (pa_cons pe_str (pa_cons (pe_tup (pa_cons pe_int (pa_cons pe_int pa_nil))) pa_nil))) pa_nil)))))))))))))))
      (pss_cons (ps_set (i := 1) scLOddPlaces.nd rfl (by first | exact Or.inl rfl | exact Or.inr rfl) (pe_op op_cat (pv 1) (pe_lst (pa_cons (pe_tup (pa_cons pe_str (pa_cons (pe_tup (pa_cons pe_bl pa_nil)) pa_nil))) (pa_cons (pe_lst (pa_cons pe_str (pa_cons (pe_lst (pa_cons pe_bl pa_nil)) pa_nil))) (pa_cons (pe_tup (pa_cons pe_str (pa_cons pe_str pa_nil))) (pa_cons (pe_disp (pps_cons pe_str (pe_tup (pa_cons pe_int pa_nil)) pps_nil) (by rfl) (by rfl) (fun z => by cases z) (by decide)) (pa_cons (pe_tup (pa_cons pe_str (pa_cons (pe_tup (pa_cons pe_int pa_nil)) (pa_cons pe_int pa_nil)))) (pa_cons (pe_tup (pa_cons (pe_tup (pa_cons pe_str pa_nil)) (pa_cons (pe_tup (pa_cons pe_int pa_nil)) pa_nil))) pa_nil)))))))))
      (pss_cons (ps_set (i := 1) scLOddPlaces.nd rfl (by first | exact Or.inl rfl | exact Or.inr rfl) (pe_op op_cat (pv 1) (pe_lst (pa_cons (pe_tup (pa_cons pe_str (pa_cons (pe_tup (pa_cons (pe_un un_neg pe_int) pa_nil)) pa_nil))) (pa_cons (pe_tup (pa_cons pe_non (pa_cons (pe_tup (pa_cons pe_int pa_nil)) pa_nil))) pa_nil)))))
      (pss_cons (ps_set (i := 1) scLOddPlaces.nd rfl (by first | exact Or.inl rfl | exact Or.inr rfl) (pe_op op_cat (pv 1) (pe_lst (pa_cons (pe_tup (pa_cons pe_str (pa_cons (pe_tup pa_nil) pa_nil))) (pa_cons (pe_tup (pa_cons pe_str (pa_cons (pe_tup (pa_cons (pe_tup (pa_cons pe_int pa_nil)) pa_nil)) pa_nil))) (pa_cons (pe_lst (pa_cons pe_str (pa_cons pe_dnewK pa_nil))) (pa_cons (pe_tup (pa_cons pe_str (pa_cons (pe_tup (pa_cons pe_int (pa_cons pe_int (pa_cons pe_int pa_nil)))) pa_nil))) (pa_cons (pe_tup (pa_cons pe_str (pa_cons (pe_tup (pa_cons pe_int pa_nil)) pa_nil))) (pa_cons (pe_tup (pa_cons pe_str (pa_cons (pe_tup (pa_cons pe_non pa_nil)) pa_nil))) pa_nil)))))))))
      (pss_cons (ps_for PassesOwn.never rfl (pi_list (pe_callB (call_sortedDL rfl hr.units) (by rfl) B.sorted (by decide +kernel) (pa_cons (pv 0) pa_nil))) (pg_name (i := 2) scLOddPlaces.nd rfl (by first | exact Or.inl rfl | exact Or.inr rfl)) (pss_cons (ps_setLc (i := 3) (own := [("_law_k", 4), ("_law_row", 5)]) (g := (gTup _ 2 (gCons (gName 4) (gCons (gName 5) gNil)))) (by rfl) scLOddPlaces.nd rfl rfl (sw_true rfl rfl rfl (by decide +kernel)) (pi_enumQ (by rfl) B.enumerate (pa_cons (pe_dget (hu_of hr) (pv 0) (pv 2) (fun _ _ => rfl)) pa_nil)) (blkOk_by (own := [("_law_k", 4), ("_law_row", 5)]) (N := ["_law_library_here", "_law_found", "_law_one", "_law_rows", "_law_k", "_law_row", "_law_module", "_law_path"]) (sc := defScope sLOddPlaces) (by decide +kernel)) (fun _ _ _ _ _ => (pg_tup (by rfl) (pgs_cons (pg_name (i := 4) scLOddPlaces.nd rfl (by first | exact Or.inl rfl | exact Or.inr rfl)) (pgs_cons (pg_name (i := 5) scLOddPlaces.nd rfl (by first | exact Or.inl rfl | exact Or.inr rfl)) pgs_nil)))) (fun _ _ _ _ _ => (pts_one (pt_cmpR (opK (K := K) (fun K => rIn K true) op_notIn_seq rfl) (pe_ix (ixK (K := K) rIx ix_seq rfl) (pv 5) pe_int (fun _ _ => rfl)) (pe_tup (pa_cons pe_str (pa_cons pe_str pa_nil))) (by rfl)))) (fun _ _ _ _ _ => (pe_tup (pa_cons (pv 2) (pa_cons (pe_tup (pa_cons (pv 4) pa_nil)) pa_nil)))))
      (pss_one (ps_expr (pe_bm PySem.F.plainAttrs_list PySem.F.slot_list_extend PySem.F.type_list_extend mt_extend (pv 1) (pa_cons (pe_op op_cat (pe_slice sl_list (pv 3) po_none (po_some pe_int)) (pe_lst (pa_cons (pe_tup (pa_cons (pv 2) (pa_cons (pe_tup (pa_cons (pe_callB call_len_seq (by rfl) B.len (by decide +kernel) (pa_cons (pe_dget (hu_of hr) (pv 0) (pv 2) (fun _ _ => rfl)) pa_nil)) pa_nil)) pa_nil))) pa_nil))) pa_nil))))))
      (pss_cons (ps_for PassesOwn.never rfl (pi_list (pe_slice sl_list (pe_own gLPlaces (hr.mono (by omega)) (by rfl) (pa_cons (pv 0) pa_nil)) po_none (po_some pe_int))) (pg_tup (by rfl) (pgs_cons (pg_name (i := 6) scLOddPlaces.nd rfl (by first | exact Or.inl rfl | exact Or.inr rfl)) (pgs_cons (pg_name (i := 7) scLOddPlaces.nd rfl (by first | exact Or.inl rfl | exact Or.inr rfl)) pgs_nil))) (pss_one (ps_expr (pe_bm PySem.F.plainAttrs_list PySem.F.slot_list_extend PySem.F.type_list_extend mt_extend (pv 1) (pa_cons (pe_lst (pa_cons (pe_tup (pa_cons (pv 6) (pa_cons (pe_callTy (call_dictP rfl) (by rfl) B.dict (by decide +kernel) (pa_cons (pe_lc (own := [("_law_k", 4)]) (g := (gName 4)) (tt := tYes) (by rfl) scLOddPlaces.nd (pi_tup (pv 7)) (blkOk_by (own := [("_law_k", 4)]) (N := ["_law_library_here", "_law_found", "_law_one", "_law_rows", "_law_k", "_law_row", "_law_module", "_law_path"]) (sc := defScope sLOddPlaces) (by decide +kernel)) (fun _ _ _ _ _ => (pg_name (i := 4) scLOddPlaces.nd rfl (by first | exact Or.inl rfl | exact Or.inr rfl))) (fun _ _ _ _ _ => pts_nil) (fun _ _ _ _ _ => (pe_tup (pa_cons (pv 4) (pa_cons pe_int pa_nil))))) pa_nil)) pa_nil))) (pa_cons (pe_callTy (call_dictR rfl (hu32d hr)) (by rfl) B.dict (by decide +kernel) (pa_cons (pe_lst (pa_cons (pe_tup (pa_cons (pv 6) (pa_cons pe_int pa_nil))) (pa_cons (pe_tup (pa_cons (pv 7) (pa_cons pe_int pa_nil))) pa_nil))) pa_nil)) pa_nil))) pa_nil)))))
      (pss_one (ps_ret (pv 1))))))))), ?_⟩
  generalize hXe : (fun b => ∃ xs, H b = some (HO.lst xs)) = X at q
  have hX0 : ∀ b, X b → ∃ xs, H b = some (.lst xs) := fun b h => by rw [← hXe] at h; exact h
  have hX : ∀ {H' : Hp}, Same H H' → ∀ b, X b → H' b ≠ none := fun {H'} s b h => by
    obtain ⟨xs, e⟩ := hX0 b h
    rw [s _ _ e]; exact fun z => nomatch z
  have XX := hX (Same.refl H)
  refine set_ph (X := X) (m := 3) (us := oddA) (by repeat' first | exact yps_nil | refine yps_cons ?_ ?_ | refine yp_tup XX ?_ | refine yp_lst XX ?_ | exact yp_dn XX | refine yp_d1 (t := .sq [iT 0]) XX ?_ | exact yp_neg | exact yp_c (by decide)) fun H1 c1 vs1 s1 n1 h1 => ?_
  have k1 : Same H1 (upd H1 c1 (.lst vs1)) := Same.new n1
  have XX := hX (Same.trans s1 k1)
  refine cat_ph (m := 3) (us2 := oddC) (c := c1) rfl upd_same (paired_imp h1 fun _ _ q => q.same (dl_same k1)) (by decide) (by repeat' first | exact yps_nil | refine yps_cons ?_ ?_ | refine yp_tup XX ?_ | refine yp_lst XX ?_ | exact yp_dn XX | refine yp_d1 (t := .sq [iT 0]) XX ?_ | exact yp_neg | exact yp_c (by decide)) fun H2 c2 vs2 s2 n2 h2 => ?_
  have k2 : Same H2 (upd H2 c2 (.lst vs2)) := Same.new n2
  have s12 := Same.trans s1 (Same.trans k1 s2)
  have XX := hX (Same.trans s12 k2)
  clear h1 s1 s2 n1
  refine cat_ph (m := 3) (us2 := oddD) (c := c2) rfl upd_same (paired_imp h2 fun _ _ q => q.same (dl_same k2)) (by decide) (by repeat' first | exact yps_nil | refine yps_cons ?_ ?_ | refine yp_tup XX ?_ | refine yp_lst XX ?_ | exact yp_dn XX | refine yp_d1 (t := .sq [iT 0]) XX ?_ | exact yp_neg | exact yp_c (by decide)) fun H3 c3 vs3 s3 n3 h3 => ?_
  have k3 : Same H3 (upd H3 c3 (.lst vs3)) := Same.new n3
  have s13 := Same.trans s12 (Same.trans k2 s3)
  have XX := hX (Same.trans s13 k3)
  clear h2 k2 s12 s3 n2
  refine cat_ph (m := 3) (us2 := oddE) (c := c3) rfl upd_same (paired_imp h3 fun _ _ q => q.same (dl_same k3)) (by decide) (by repeat' first | exact yps_nil | refine yps_cons ?_ ?_ | refine yp_tup XX ?_ | refine yp_lst XX ?_ | exact yp_dn XX | refine yp_d1 (t := .sq [iT 0]) XX ?_ | exact yp_neg | exact yp_c (by decide)) fun H4 c vs s4 n4 h4 => ?_
  have s14 := Same.trans s13 (Same.trans k3 s4)
  have hc4 : (upd H4 c (.lst vs)) c = some (.lst vs) := upd_same
  have d4 : Same (dlX X H4) (dz X c (upd H4 c (.lst vs))) := dz_new n4
  have s15 := Same.trans s14 (Same.new n4 (o := .lst vs))
  have ph4 := paired_imp h4 fun _ _ q => q.same d4
  have nc : H c = none := Same.free s14 n4
  clear h3 k3 s13 s4 n3 h4 d4 s14
  generalize upd H4 c (.lst vs) = G at *
  have l4 : (oddA ++ oddC ++ oddD ++ oddE).length = 27 := by decide
  have ok4 : ∀ t ∈ oddA ++ oddC ++ oddD ++ oddE, odB t = true := fun t ht => List.all_eq_true.mp odd_ok t ht
  generalize (oddA ++ oddC ++ oddD ++ oddE) = us at *
  have spsIn : ∀ libS : Lib, libS.Perm lib → SpsIn libS (spotsL libS) := fun libS pm => ⟨fun p hp => spots_plc (fun m hm => ⟨by have := (DL.o m (pm.mem_iff.mp hm)).1; omega, (DL.o m (pm.mem_iff.mp hm)).2⟩) hp, fun z hz => nms.2.2 z ((pm.map _).mem_iff.mp hz)⟩
  have odd4 : ∀ libS : Lib, libS.Perm lib → PyProof.Rows.sortedS (libS.map (·.1)) = true → ∀ t ∈ us, OdT (spotsL libS) t := fun libS pm _ t ht => odB_ok (spsIn libS pm) (ok4 t ht)
  clear ok4
  have l4' : 27 ≤ us.length := Nat.le_of_eq l4.symm
  have l4 : us.length ≤ 27 := Nat.le_of_eq l4
  have hd4 := s15 _ _ hd
  have dlc : dl ≠ c := ne_of_none hd nc
  have kvd := DL.kvd
  refine ⟨_, rfl, dl, kvs, lib.map (·.1), rfl, .inl hd4, DL.keys, fun ys p perm srt np => ?_⟩
  have sp : Same G (upd G p (.lst (ys.map V.str))) := Same.new np
  have hp : (upd G p (.lst (ys.map V.str))) p = some (.lst (ys.map V.str)) := upd_same
  have pc : p ≠ c := fun e => by rw [e, hc4] at np; cases np
  replace hc4 := sp _ _ hc4
  replace ph4 := paired_imp ph4 fun _ _ q => q.same (dz_to fun b o _ e => sp b o e)
  have s16 := Same.trans s15 sp
  clear sp s15 hd4
  generalize upd G p _ = G1 at *
  have ly : ys.length ≤ 3 := by rw [perm.length_eq]; exact nms.1
  refine ⟨_, rfl, ⟨_, SqL.of hp⟩, ?_⟩
  refine for_it walk_list (fun i σ H' => Fr (· ≠ c) G1 H' ∧ (∃ v2 v3 v4 v5 v6 v7, σ = [some (.ref dl), some (.ref c), v2, v3, v4, v5, v6, v7]) ∧ ∃ vs us, H' c = some (.lst vs) ∧ Paired (PhAt (dz X c H') 3) vs us ∧ (us.length ≤ 27 + 3 * i ∧ 27 ≤ us.length) ∧ ∀ libS : Lib, libS.Perm lib → PyProof.Rows.sortedS (libS.map (·.1)) = true → ∀ t ∈ us, OdT (spotsL libS) t)
    ⟨Fr.refl, ⟨_, _, _, _, _, _, rfl⟩, vs, us, hc4, ph4, ⟨by omega, l4'⟩, odd4⟩ (fun i σ H' _ ⟨f, _⟩ => SqL.of (f _ _ pc hp)) ?_ ?_
  · clear hc4 ph4 odd4
    rintro i x σ H2 H3 hi ⟨f2, ⟨v2, v3, v4, v5, v6, v7, rfl⟩, vs, us, hc, ph, lu, odd⟩ ⟨rfl, hx⟩
    have hi : i < (ys.map V.str).length := hi
    rw [List.length_map] at hi
    have hx : (ys.map V.str)[i]? = some x := hx
    rw [List.getElem?_map] at hx
    obtain ⟨z, hz, rfl⟩ := Option.map_eq_some_iff.mp hx
    have zk := perm.mem_iff.mp (List.mem_of_getElem? hz)
    obtain ⟨⟨z', rs⟩, hm, e⟩ := List.mem_map.mp zk
    obtain rfl : z' = z := e
    obtain ⟨⟨kx, vx⟩, hkv, ekx, hrows⟩ := paired_memR DL.l hm
    obtain rfl : kx = Sum.inr z' := ekx
    obtain ⟨j0, hkv⟩ := List.getElem?_of_mem hkv
    obtain ⟨l, xs, evx, okl, hl, hxs⟩ := hrows
    obtain rfl : vx = .ref l := evx
    have sH3 : Same H H3 := fun b o e => f2 _ _ (ne_of_none e nc) (s16 _ _ e)
    have dg : ∀ {H' : Hp}, Same H3 H' → DGet H' dl (.str z') (some (.ref l)) := fun {H'} sm => by rw [← valV_at kvd hkv]; exact .inl ⟨kvs, Sum.inr z', .inl (sm _ _ (sH3 _ _ hd)), rfl, rfl⟩
    obtain ⟨lrs, okrs⟩ := DL.o _ hm
    have lrs : rs.length ≤ 13 := lrs
    have lxs := paired_len hxs
    refine ⟨_, rfl, _, rfl, dl, .ref l, rfl, dg (Same.refl _), l, true, xs, rfl, sq_of (kd := true) (sH3 _ _ hl), fun L nL => ?_⟩
    have Lc : L ≠ c := fun e => by rw [e, hc] at nL; cases nL
    refine lc_it walk_enumQ (fun j H' => Same H3 H' ∧ ∃ (ws : List Addr) (pls : List Pl), H' L = some (.lst (ws.map V.ref)) ∧ Paired (PlAt H') ws pls ∧ ws.length ≤ j ∧ (∀ w ∈ ws, w ≠ c) ∧ ∀ p ∈ pls, ∃ (k : Nat) (r : Row), p = (z', [(k : Int)]) ∧ rs[k]? = some r ∧ isImp r = false)
      ⟨Same.new nL, [], [], upd_same, .nil, by simp, by simp, by simp⟩ (fun j H' _ ⟨sm, _⟩ => sq_of (kd := true) (sm _ _ (sH3 _ _ hl))) ?_ ?_
    · rintro j y H4 H5 hj ⟨sm, ws, pls, hL, hpl, lw, wc, hpls⟩ ⟨T, x1, x2, rfl, nT, rfl, e1, e2⟩
      have e1' : x1 = .int (j : Nat) := (Option.some.inj e1).symm
      subst e1'
      obtain ⟨r, hr', hrow⟩ := paired_get hxs e2
      have s4 : Same H4 (upd H4 T (.tup [.int (j : Nat), x2])) := Same.new nT
      refine ⟨T, _, rfl, SqT.of upd_same, rfl, _, _, rfl, _, _, rfl, rfl, rfl, ?_⟩
      generalize upd H4 T _ = H6 at *
      have hL6 := s4 _ _ hL
      have s46 := Same.trans sm s4
      obtain ⟨ra, kd0, rest, er, hkd, hra⟩ := rowAt_head hrow
      subst er
      refine ⟨_, rfl, rIx_seq (sq_of (s46 _ _ (sH3 _ _ hra))) (atI_nat (j := 0) rfl) ⟨(by show 2 ≤ sizeLine; decide), fun t1 nt1 => ?_⟩⟩
      have st1 : Same H6 (upd H6 t1 (.tup [.str "load", .str "pick"])) := Same.new nt1
      have ht1 : (upd H6 t1 (.tup [.str "load", .str "pick"])) t1 = some (.tup [.str "load", .str "pick"]) := upd_same
      generalize upd H6 t1 _ = H7 at *
      refine ⟨t1, loadPick, rfl, .inr (SqT.of ht1), rfl, rfl, _, rfl, ?_⟩
      rw [inV_imp]
      have s47 := Same.trans s46 st1
      have hL7 := st1 _ _ hL6
      have hpl7 := paired_imp hpl fun _ _ (q : PlAt H4 _ _) => q.to fun b xs e => st1 _ _ (s4 _ _ e)
      cases himp : isImp r with
      | true => exact iteF ⟨s47, ws, pls, hL7, hpl7, by omega, wc, hpls⟩
      | false =>
        refine iteT ⟨_, rfl, ⟨_, rfl, (by show 1 ≤ sizeLine; decide), fun t2 nt2 => ⟨(by show 2 ≤ sizeLine; decide), fun t3 nt3 => ?_⟩⟩⟩
        have s5 : Same H7 (upd H7 t2 (.tup [.int (j : Nat)])) := Same.new nt2
        have ht2 : (upd H7 t2 (.tup [.int (j : Nat)])) t2 = some (.tup [.int (j : Nat)]) := upd_same
        generalize upd H7 t2 _ = H8 at *
        have s6 : Same H8 (upd H8 t3 (.tup [.str z', .ref t2])) := Same.new nt3
        have ht3 : (upd H8 t3 (.tup [.str z', .ref t2])) t3 = some (.tup [.str z', .ref t2]) := upd_same
        have ht2 := s6 _ _ ht2
        have t3c : t3 ≠ c := fun e => by rw [e, s5 _ _ (s47 _ _ hc)] at nt3; cases nt3
        generalize upd H8 t3 _ = H9 at *
        have s79 := Same.trans s5 s6
        have hL9 := s79 _ _ hL7
        have tp : ∀ b xs, H9 b = some (.tup xs) → (upd H9 L (.lst (ws.map V.ref ++ [.ref t3]))) b = some (.tup xs) := fun b xs e => by rw [upd_ne (ne_of e hL9 (fun z => nomatch z))]; exact e
        refine ⟨_, hL9, small (by rw [List.length_map]; omega), Same.upN (Same.trans s47 s79) nL, ws ++ [t3], pls ++ [(z', [(j : Int)])], by rw [upd_same, List.map_append]; rfl, ?_, by rw [List.length_append, List.length_singleton]; omega, ?_, ?_⟩
        · exact paired_app ⟨t2, tp _ _ ht3, tp _ _ ht2⟩ (paired_imp hpl7 fun _ _ q => q.to fun b xs e => tp _ _ (s79 _ _ e))
        · intro w hw
          rcases List.mem_append.mp hw with hw | hw
          · exact wc w hw
          · rw [List.mem_singleton.mp hw]; exact t3c
        · intro p hp
          rcases List.mem_append.mp hp with hp | hp
          · exact hpls p hp
          · rw [List.mem_singleton.mp hp]
            exact ⟨j, r, rfl, hr', himp⟩
    · rintro H4 ⟨sm, ws, pls, hL, hpl, lw, wc, hpls⟩
      have hcH4 := sm _ _ hc
      refine ⟨_, rfl, .inl ⟨rfl, _, SqL.of hcH4⟩, _, rfl, 2, rfl, L, _, rfl, SqL.of hL, fun c2 nc2 => ?_⟩
      have e2 : (upd H4 c2 (.lst (cutV (ws.map V.ref) none (some 2)))) c2 = some (.lst ((ws.take 2).map V.ref)) := by rw [upd_same, List.map_take]; exact congrArg (fun z => some (HO.lst z)) (cutV_takeD _ 2)
      have s5 : Same H4 (upd H4 c2 (.lst (cutV (ws.map V.ref) none (some 2)))) := Same.new nc2
      generalize upd H4 c2 _ = H5 at *
      have s35 := Same.trans sm s5
      refine ⟨_, rfl, _, rfl, _, rfl, dl, .ref l, rfl, dg s35, l, _, rfl, .inl (SqL.of (s35 _ _ (sH3 _ _ hl))), ?_⟩
      rw [lxs]
      refine ⟨(by show 1 ≤ sizeLine; decide), fun t4 nt4 => ⟨(by show 2 ≤ sizeLine; decide), fun t5 nt5 => ⟨(by show 1 ≤ sizeLine; decide), fun L2 nL2 => ?_⟩⟩⟩
      have s6 : Same H5 (upd H5 t4 (.tup [.int (rs.length : Nat)])) := Same.new nt4
      have ht4 : (upd H5 t4 (.tup [.int (rs.length : Nat)])) t4 = some (.tup [.int (rs.length : Nat)]) := upd_same
      generalize upd H5 t4 _ = H6 at *
      have s7 : Same H6 (upd H6 t5 (.tup [.str z', .ref t4])) := Same.new nt5
      have ht5 : (upd H6 t5 (.tup [.str z', .ref t4])) t5 = some (.tup [.str z', .ref t4]) := upd_same
      have t5c : t5 ≠ c := fun e => by rw [e, s6 _ _ (s35 _ _ hc)] at nt5; cases nt5
      generalize upd H6 t5 _ = H7 at *
      have s8 : Same H7 (upd H7 L2 (.lst [.ref t5])) := Same.new nL2
      have hL2 : (upd H7 L2 (.lst [.ref t5])) L2 = some (.lst [.ref t5]) := upd_same
      generalize upd H7 L2 _ = H8 at *
      have s58 := Same.trans s6 (Same.trans s7 s8)
      have lws2 : (ws.take 2).length ≤ 2 := by rw [List.length_take]; omega
      refine ⟨c2, L2, _, _, rfl, rfl, s58 _ _ e2, hL2, smallE (by rw [List.length_map]; show _ + 1 ≤ _; omega), fun L3 nL3 => ?_⟩
      have s9 : Same H8 (upd H8 L3 (.lst ((ws.take 2).map V.ref ++ [.ref t5]))) := Same.new nL3
      have hL3 : (upd H8 L3 (.lst ((ws.take 2).map V.ref ++ [.ref t5]))) L3 = some (.lst ((ws.take 2).map V.ref ++ [.ref t5])) := upd_same
      generalize upd H8 L3 _ = H9 at *
      have s49 := Same.trans s5 (Same.trans s58 s9)
      have s39 := Same.trans sm s49
      have hc9 := s39 _ _ hc
      have lvs := paired_len ph
      refine ⟨c, L3, vs, _, rfl, rfl, hc9, hL3, smallE (by rw [List.length_append, List.length_map]; show _ + (_ + 1) ≤ _; omega), ?_⟩
      have fE : Fr (· ≠ c) G1 (upd H9 c (.lst (vs ++ ((ws.take 2).map V.ref ++ [.ref t5])))) := (f2.trans (Fr.same s39)).trans (Fr.put fun z => z rfl)
      have dE : Same (dz X c H3) (dz X c (upd H9 c (.lst (vs ++ ((ws.take 2).map V.ref ++ [.ref t5]))))) := dz_to fun b o h e => by rw [upd_ne h]; exact s39 _ _ e
      have tE : ∀ {b : Addr} {xs : List V}, b ≠ c → H9 b = some (.tup xs) → (dz X c (upd H9 c (.lst (vs ++ ((ws.take 2).map V.ref ++ [.ref t5]))))) b = some (.tup xs) := fun {b xs} h e => dz_at h (fun hx => by
        obtain ⟨ys, e1⟩ := hX0 b hx
        rw [s39 _ _ (sH3 _ _ e1)] at e
        cases e) (by rw [upd_ne h]; exact e)
      have cP : ∀ {b : Addr} {xs : List V}, H9 b = some (.tup xs) → b ≠ c := fun {b xs} e h => by rw [h, hc9] at e; cases e
      have phw : ∀ {T : Addr} {p : Pl}, PlAt H9 T p → p.1.length ≤ 1000 → p.2.length ≤ 100 → PhAt (dz X c (upd H9 c (.lst (vs ++ ((ws.take 2).map V.ref ++ [.ref t5]))))) 3 (.ref T) (plTh p) := fun {T p} ⟨b, g1, g2⟩ h1 h2 => (plTh_at (k1 := false) (k2 := false) (tE (cP g1) g1) (tE (cP g2) g2) h1 h2).up
      have zk1 : z'.length ≤ 8 := by
        have abcW : ∀ z ∈ abcD, z.length ≤ 8 := by decide +kernel
        exact abcW _ (nms.2.2 _ zk)
      refine ⟨fE, ⟨_, _, _, _, _, _, rfl⟩, _, us ++ ((pls.take 2).map plTh ++ [plTh (z', [(rs.length : Int)])]), upd_same, ?_, ?_, ?_⟩
      · refine paired_append (paired_imp ph fun _ _ q => q.same dE) (paired_append ?_ (.cons (phw ⟨t4, s9 _ _ (s8 _ _ ht5), s9 _ _ (s8 _ _ (s7 _ _ ht4))⟩ (by show z'.length ≤ 1000; omega) (by show 1 ≤ 100; decide)) .nil))
        have hp2 : Paired (PlAt H9) (ws.take 2) (pls.take 2) := paired_takeD (paired_imp hpl fun _ _ q => q.to fun b xs e => s49 _ _ e)
        have hb2 : ∀ p ∈ pls.take 2, p.1.length ≤ 1000 ∧ p.2.length ≤ 100 := fun p hp => by
          obtain ⟨kk, r, rfl, _⟩ := hpls p (List.mem_of_mem_take hp)
          exact ⟨by show z'.length ≤ 1000; omega, by show 1 ≤ 100; decide⟩
        exact pls_ph phw hp2 hb2
      · rw [List.length_append, List.length_append, List.length_map]
        have : (pls.take 2).length ≤ 2 := by rw [List.length_take]; omega
        show _ + (_ + 1) ≤ _ ∧ 27 ≤ _ + (_ + 1)
        exact ⟨by omega, by omega⟩
      · intro libS pm srt t ht
        have S := spsIn libS pm
        rcases List.mem_append.mp ht with ht | ht
        · exact odd libS pm srt t ht
        · have hmS : (z', rs) ∈ libS := pm.mem_iff.mpr hm
          have ndS : (libS.map (·.1)).Nodup := (pm.map _).nodup_iff.mpr DL.nd
          have zok : PyData.strOk z' = true := by
            have abcW : ∀ z ∈ abcD, PyData.strOk z = true := by decide +kernel
            exact abcW _ (nms.2.2 _ zk)
          have mk : ∀ kk : Int, (∀ r, rs[kk.toNat]? = some r → isImp r = true → False) → OdT (spotsL libS) (plTh (z', [kk])) := fun kk hn => ⟨fun p e => by
            rw [placeT_plTh] at e
            cases e
            intro hp
            have := S.1 _ hp
            obtain ⟨_, r, h1, h2⟩ := PlcIn.one this ndS hmS
            exact hn r h1 h2, fun p e => by
            rw [placeT_plTh] at e
            cases e
            exact ⟨zok, by show 1 ≤ 1000; decide⟩⟩
          rcases List.mem_append.mp ht with ht | ht
          · obtain ⟨p, hp, rfl⟩ := List.mem_map.mp ht
            obtain ⟨kk, r, rfl, h1, h2⟩ := hpls p (List.mem_of_mem_take hp)
            refine mk _ fun r' h3 h4 => ?_
            rw [Int.toNat_natCast, h1] at h3
            cases h3
            rw [h2] at h4; cases h4
          · rw [List.mem_singleton.mp ht]
            refine mk _ fun r' h3 _ => ?_
            rw [Int.toNat_natCast, List.getElem?_eq_none (Nat.le_refl _)] at h3
            cases h3
  · rintro σ H2 ⟨f2, ⟨v2, v3, v4, v5, v6, v7, rfl⟩, vs, us, hc, ph, lu, odd⟩
    have lu : us.length ≤ 36 ∧ 27 ≤ us.length := by
      have : (ys.map V.str).length = ys.length := List.length_map _
      exact ⟨by omega, lu.2⟩
    have sH2 : Same H H2 := fun b o e => f2 _ _ (ne_of_none e nc) (s16 _ _ e)
    have DL2 := DL.to (Keep.fr (Fr.same sH2) fun _ k => k)
    have abcL : ∀ z ∈ abcD, z.length ≤ 8 ∧ PyData.strOk z = true := by decide +kernel
    have lne : lib ≠ [] := fun e => by have := nms.2.1; rw [e] at this; simp at this
    have lfew : lib.length ≤ 3 := by have := nms.1; rwa [List.length_map] at this
    refine ⟨_, rfl, dl, kvs, lib, _, _, rfl, sH2 _ _ hd, DL2.at, by omega, lne, DL.nd, fun m hm => ⟨by have := (DL.o m hm).1; omega, (DL.o m hm).2, by have := (abcL m.1 (nms.2.2 m.1 (List.mem_map.mpr ⟨m, hm, rfl⟩))).1; omega⟩, fun H3 m es libS0 s3 nm hm hes pm0 srt0 => ⟨2, rfl, m, es, rfl, SqL.of hm, fun c2 nc2 => ?_⟩⟩
    have S0 := spsIn libS0 pm0
    have e2 : (upd H3 c2 (.lst (cutV es none (some 2)))) c2 = some (.lst (es.take 2)) := by rw [upd_same]; exact congrArg (fun z => some (HO.lst z)) (cutV_takeD _ 2)
    have s4 : Same H3 (upd H3 c2 (.lst (cutV es none (some 2)))) := Same.new nc2
    have c2c : c2 ≠ c := fun e => by rw [e, s3 _ _ hc] at nc2; cases nc2
    generalize upd H3 c2 _ = H4 at *
    have s24 := Same.trans s3 s4
    have hes4 : Paired (SpotAt H4) (es.take 2) ((spotsL libS0).take 2) := paired_takeD (paired_imp hes fun _ _ q => q.to fun b xs e => s4 _ _ e)
    have sH4 := Same.trans sH2 s24
    have spm : ∀ q ∈ (spotsL libS0).take 2, q ∈ spotsL libS0 := fun q hq => List.mem_of_mem_take hq
    have les : (es.take 2).length ≤ 2 := by rw [List.length_take]; omega
    generalize (spotsL libS0).take 2 = sps2 at *
    generalize es.take 2 = es2 at *
    have hcL : ∃ zs, H4 c = some (.lst zs) := ⟨_, s24 _ _ hc⟩
    refine ⟨c2, rfl, ⟨_, SqL.of e2⟩, ?_⟩
    refine for_it walk_list (fun i σ H' => Fr (· ≠ c) H4 H' ∧ (∃ v2 v3 v4 v5 v6 v7, σ = [some (.ref dl), some (.ref c), v2, v3, v4, v5, v6, v7]) ∧ ∃ vs us, H' c = some (.lst vs) ∧ Paired (PhAt (dz X c H') 3) vs us ∧ (us.length ≤ 36 + 2 * i ∧ 27 ≤ us.length) ∧ ∀ libS : Lib, libS.Perm lib → PyProof.Rows.sortedS (libS.map (·.1)) = true → ∀ t ∈ us, OdT (spotsL libS) t)
      ⟨Fr.refl, ⟨_, _, _, _, _, _, rfl⟩, vs, us, s24 _ _ hc, paired_imp ph fun _ _ q => q.same (dz_to fun b o _ e => s24 b o e), ⟨by omega, lu.2⟩, odd⟩ (fun i σ H' _ ⟨f, _⟩ => SqL.of (f _ _ c2c e2)) ?_ ?_
    · clear hc ph lu odd
      rintro i x σ H5 H6 hi ⟨f5, ⟨v2, v3, v4, v5, v6, v7, rfl⟩, vs, us, hc, ph, lu, odd⟩ ⟨rfl, hx⟩
      have hi : i < es2.length := hi
      have hx : es2[i]? = some x := hx
      obtain ⟨⟨z, path⟩, hq, T, pv, rfl, hT, b, rfl, hb⟩ := paired_get hes4 hx
      have hqm := spm _ (List.mem_of_getElem? hq)
      have pq := S0.1 _ hqm
      have ncp : ∀ {y : Addr} {zs : List V}, H4 y = some (.tup zs) → y ≠ c := fun {y zs} e h => by
        obtain ⟨us0, e0⟩ := hcL
        rw [h, e0] at e; cases e
      have Tc := ncp hT
      have bc := ncp hb
      have hT6 := f5 _ _ Tc hT
      have hb6 := f5 _ _ bc hb
      have lp : path.length ≤ 1000 := spots_shortD hqm
      refine ⟨T, _, rfl, SqT.of hT6, rfl, _, _, rfl, _, _, rfl, rfl, ?_⟩
      refine ⟨_, rfl, .inl ⟨rfl, _, SqL.of hc⟩, _, rfl, _, rfl, b, rfl, ⟨_, SqT.of hb6⟩, fun L nL => ?_⟩
      have Lc : L ≠ c := fun e => by rw [e, hc] at nL; cases nL
      refine lc_it walk_tup (fun j H' => Same H6 H' ∧ ∃ ps : List Addr, H' L = some (.lst (ps.map V.ref)) ∧ Paired (fun p (i : Int) => H' p = some (.tup [.int i, .int 5])) ps (path.take j))
        ⟨Same.new nL, [], upd_same, .nil⟩ (fun j H' _ ⟨sm, _⟩ => SqT.of (sm _ _ hb6)) ?_ ?_
      · rintro j y H7 H8 hj ⟨sm, ps, hL, hps⟩ ⟨rfl, hy⟩
        rw [List.length_map] at hj
        rw [List.getElem?_map] at hy
        obtain ⟨n, hn, rfl⟩ := Option.map_eq_some_iff.mp hy
        refine ⟨rfl, _, rfl, (by show 2 ≤ sizeLine; decide), fun t1 nt1 => ?_⟩
        have s1 : Same H8 (upd H8 t1 (.tup [.int n, .int 5])) := Same.new nt1
        have h1 : (upd H8 t1 (.tup [.int n, .int 5])) t1 = some (.tup [.int n, .int 5]) := upd_same
        generalize upd H8 t1 _ = H9 at *
        have hL9 := s1 _ _ hL
        have tp : ∀ b xs, H9 b = some (.tup xs) → (upd H9 L (.lst (ps.map V.ref ++ [.ref t1]))) b = some (.tup xs) := fun b xs e => by rw [upd_ne (ne_of e hL9 (fun z => nomatch z))]; exact e
        have lps := paired_len hps
        rw [List.length_take] at lps
        refine ⟨_, hL9, small (by rw [List.length_map]; omega), Same.upN (Same.trans sm s1) nL, ps ++ [t1], by rw [upd_same, List.map_append]; rfl, ?_⟩
        rw [List.take_add_one, hn]
        exact paired_app (R := fun p (i : Int) => (upd H9 L (.lst (ps.map V.ref ++ [.ref t1]))) p = some (.tup [.int i, .int 5])) (tp _ _ h1) (paired_imp hps fun p i e => tp _ _ (s1 _ _ e))
      · rintro H7 ⟨sm, ps, hL, hps⟩
        rw [List.length_map, List.take_length] at hps
        have kvp : Paired (fun p (kv : Key × V) => SqT K H7 p [kV kv.1, kv.2]) ps (path.map fun i => ((Sum.inl i : Key), V.int 5)) := by
          have go : ∀ {ps : List Addr} {path : List Int}, Paired (fun p (i : Int) => H7 p = some (.tup [.int i, .int 5])) ps path → Paired (fun p (kv : Key × V) => SqT K H7 p [kV kv.1, kv.2]) ps (path.map fun i => ((Sum.inl i : Key), V.int 5)) := fun {ps path} h => by
            induction h with
            | nil => exact .nil
            | cons r _ ih => exact .cons (SqT.of r) ih
          exact go hps
        refine ⟨L, ps, _, rfl, SqL.of hL, kvp, fun d1 nd1 => ?_⟩
        have s2 : Same H7 (upd H7 d1 (.dK (mergeK [] (path.map fun i => ((Sum.inl i : Key), V.int 5))))) := Same.new nd1
        have h2 : (upd H7 d1 (.dK (mergeK [] (path.map fun i => ((Sum.inl i : Key), V.int 5))))) d1 = some (.dK (mergeK [] (path.map fun i => ((Sum.inl i : Key), V.int 5)))) := upd_same
        have d1c : d1 ≠ c := fun e => by rw [e, sm _ _ hc] at nd1; cases nd1
        generalize upd H7 d1 _ = H8 at *
        refine ⟨(by show 2 ≤ sizeLine; decide), fun t1 nt1 => ?_⟩
        have s3' : Same H8 (upd H8 t1 (.tup [.str z, .ref d1])) := Same.new nt1
        have h3 : (upd H8 t1 (.tup [.str z, .ref d1])) t1 = some (.tup [.str z, .ref d1]) := upd_same
        have t1c : t1 ≠ c := fun e => by rw [e, s2 _ _ (sm _ _ hc)] at nt1; cases nt1
        generalize upd H8 t1 _ = H9 at *
        refine ⟨_, rfl, (by show 2 ≤ sizeLine; decide), fun p1 np1 => ⟨_, rfl, (by show 2 ≤ sizeLine; decide), fun p2 np2 => ⟨(by show 2 ≤ sizeLine; decide), fun a np3 => ?_⟩⟩⟩
        have s4' : Same H9 (upd H9 p1 (.tup [.str z, .int 0])) := Same.new np1
        have h4 : (upd H9 p1 (.tup [.str z, .int 0])) p1 = some (.tup [.str z, .int 0]) := upd_same
        generalize upd H9 p1 _ = HA at *
        have s5' : Same HA (upd HA p2 (.tup [.ref b, .int 0])) := Same.new np2
        have h5 : (upd HA p2 (.tup [.ref b, .int 0])) p2 = some (.tup [.ref b, .int 0]) := upd_same
        generalize upd HA p2 _ = HB at *
        have s6' : Same HB (upd HB a (.lst [.ref p1, .ref p2])) := Same.new np3
        have h6 : (upd HB a (.lst [.ref p1, .ref p2])) a = some (.lst [.ref p1, .ref p2]) := upd_same
        generalize upd HB a _ = HC at *
        have s6C := Same.trans sm (Same.trans s2 (Same.trans s3' (Same.trans s4' (Same.trans s5' s6'))))
        have hbC : HC b = some (.tup ((path.map (Sum.inl : Int → Key)).map kV)) := by
          rw [List.map_map]
          exact s6C _ _ hb6
        refine ⟨a, p1, p2, b, z, .int 0, .int 0, _, rfl, h6, s6' _ _ (s5' _ _ h4), s6' _ _ h5, hbC, fun d2 nd2 => ⟨(by show 2 ≤ sizeLine; decide), fun L2 nL2 => ?_⟩⟩
        have s7' : Same HC (upd HC d2 (OddE d2 z b)) := Same.new nd2
        have h7 : (upd HC d2 (OddE d2 z b)) d2 = some (OddE d2 z b) := upd_same
        have d2c : d2 ≠ c := fun e => by rw [e, s6C _ _ hc] at nd2; cases nd2
        generalize upd HC d2 _ = HD at *
        have s8' : Same HD (upd HD L2 (.lst [.ref t1, .ref d2])) := Same.new nL2
        have h8 : (upd HD L2 (.lst [.ref t1, .ref d2])) L2 = some (.lst [.ref t1, .ref d2]) := upd_same
        generalize upd HD L2 _ = HE at *
        have s6E := Same.trans s6C (Same.trans s7' s8')
        have s9E := Same.trans s4' (Same.trans s5' (Same.trans s6' (Same.trans s7' s8')))
        have lvs := paired_len ph
        have hcE := s6E _ _ hc
        refine ⟨c, L2, vs, _, rfl, rfl, hcE, h8, smallE (by show _ + 2 ≤ _; omega), ?_⟩
        refine ⟨(f5.trans (Fr.same s6E)).trans (Fr.put fun z => z rfl), ⟨_, _, _, _, _, _, rfl⟩, _, us ++ [.sq [.at (.str z), .dc], .dc], upd_same, ?_, by rw [List.length_append]; show _ + 2 ≤ _ ∧ 27 ≤ _ + 2; exact ⟨by omega, by omega⟩, fun libS pm srt t ht => ?_⟩
        · have dE : Same (dz X c H6) (dz X c (upd HE c (.lst (vs ++ [.ref t1, .ref d2])))) := dz_to fun b o h e => by rw [upd_ne h]; exact s6E _ _ e
          have tE : ∀ {b : Addr} {o : HO}, b ≠ c → (∀ ys, o ≠ .lst ys) → HE b = some o → (dz X c (upd HE c (.lst (vs ++ [.ref t1, .ref d2])))) b = some o := fun {b o} h hn e => dz_at h (fun hx => by
            obtain ⟨ys, e1⟩ := hX0 b hx
            rw [s6E _ _ (f5 _ _ h (sH4 _ _ e1))] at e
            exact hn ys (Option.some.inj e).symm) (by rw [upd_ne h]; exact e)
          have zk : z.length ≤ 1000 := by have := (abcL z (S0.2 _ pq.name)).1; omega
          exact paired_append (paired_imp ph fun _ _ q => q.same dE) (.cons ⟨t1, false, _, rfl, tE t1c (by intro ys z; cases z) (s9E _ _ h3), by show 2 ≤ 100; decide, .cons ⟨rfl, by simp [smallT, isAtom, zk]⟩ (.cons (phAt_dc' (tE d1c (by intro ys z; cases z) (s9E _ _ (s3' _ _ h2))) (.inl ⟨_, rfl, five_flat path⟩)) .nil)⟩ (.cons (phAt_dc' (tE d2c (fun ys z => by unfold OddE at z; cases z) (s8' _ _ h7)) (.inr ⟨_, _, _, rfl, tE bc (by intro ys z; cases z) (s8' _ _ (s7' _ _ hbC))⟩)) .nil))
        · rcases List.mem_append.mp ht with ht | ht
          · exact odd libS pm srt t ht
          · rcases List.mem_cons.mp ht with rfl | ht
            · exact odB_ok (spsIn libS pm) rfl
            · rw [List.mem_singleton.mp ht]; exact odB_ok (spsIn libS pm) rfl
    · rintro σ H5 ⟨f5, ⟨v2, v3, v4, v5, v6, v7, rfl⟩, vs, us, hc, ph, lu, odd⟩
      exact ⟨_, rfl, q H5 c vs us (fun b o e => f5 _ _ (ne_of_none e nc) (sH4 _ _ e)) nc hc (paired_imp ph fun _ _ q => q.same dz_sub) (by omega) lu.2 odd⟩
end
end Ft
set_option Elab.async false
set_option linter.all false
set_option maxRecDepth 100000
set_option maxHeartbeats 4000000
set_option pp.maxSteps 1500
namespace Ft
open PySem L2
def AtS (H : Hp) (x y : V) : Prop := x = y ∧ (isAtom x = true ∨ ∃ a kvs, x = .ref a ∧ H a = some (.dK kvs) ∧ ∀ p ∈ kvs, valV kvs p.1 = some p.2 ∧ (flatB p.2 = true ∨ ∃ b, p.2 = .ref b))
def SmAt (H : Hp) : Nat → V → V → Prop
  | 0, x, y => AtS H x y
  | m + 1, x, y => AtS H x y ∨ ∃ a b kd xs ys, x = .ref a ∧ y = .ref b ∧ H a = some (mkO kd xs) ∧ H b = some (mkO kd ys) ∧ xs.length ≤ 16000000 ∧ Paired (SmAt H m) xs ys
theorem dict_selfR {K : PySem.W.Frag} {H : Hp} {a : Addr} {kvs : List (Key × V)} (h : H a = some (.dK kvs)) (hf : ∀ p ∈ kvs, valV kvs p.1 = some p.2 ∧ (flatB p.2 = true ∨ ∃ b, p.2 = .ref b)) : EqR K H (EqV K H 1) (.ref a) (.ref a) :=
  .inr ⟨a, a, kvs, kvs, rfl, rfl, h, h, rfl, fun p hp => ⟨p.2, (hf p hp).1, (hf p hp).2.elim (fun f => .inl ⟨rfl, f⟩) fun ⟨b, e⟩ => .inr (.inl ⟨b, e, e⟩)⟩⟩
theorem AtS.same {H H' : Hp} {x y : V} (h : AtS H x y) (s : Same H H') : AtS H' x y := by
  obtain ⟨e, h | ⟨a, kvs, e2, h1, h2⟩⟩ := h
  · exact ⟨e, .inl h⟩
  · exact ⟨e, .inr ⟨a, kvs, e2, s _ _ h1, h2⟩⟩
theorem SmAt.same {H H' : Hp} (s : Same H H') : ∀ {m : Nat} {x y : V}, SmAt H m x y → SmAt H' m x y
  | 0, _, _, h => AtS.same h s
  | m + 1, _, _, .inl h => .inl (AtS.same h s)
  | m + 1, _, _, .inr ⟨a, b, kd, xs, ys, e1, e2, h1, h2, l, p⟩ => .inr ⟨a, b, kd, xs, ys, e1, e2, s _ _ h1, s _ _ h2, l, paired_imp p fun _ _ q => SmAt.same s q⟩
theorem dict_ty {K : PySem.W.Frag} {H : Hp} {a : Addr} {kvs : List (Key × V)} (h : H a = some (.dK kvs)) : TyX K H (.ref a) (.type "dict") := .base (.dK h)
end Ft
set_option Elab.async false
set_option linter.all false
set_option maxRecDepth 100000
set_option maxHeartbeats 1000000
set_option pp.maxSteps 5000
set_option pp.deepTerms.threshold 10
namespace Ft
open PySem L2
section
variable {prog : PySem.Program} {w : World} {A : Around} {E : Value → Shared → Prop} {s : Shared} {d t : Addr} {o : Obj} {ep : Nat} {z : Str} {t1 : Tok} {v1 v2 : Value} {h1 h2 : Int} {k : List Key} {its : Array Value}
theorem places2 (es : Array DictEntry) (e0 e1 : DictEntry) (he : es = #[e0, e1]) (h : Int) : placesWithHash es.size (fun i => es[i]?.map (·.hash)) h = (if e0.hash = h then [0] else []) ++ (if e1.hash = h then [1] else []) := by
  subst he
  show (List.range 2).filter _ = _
  have r : List.range 2 = [0, 1] := rfl
  rw [r]
  simp only [List.filter_cons, List.filter_nil]
  by_cases c0 : e0.hash = h <;> by_cases c1 : e1.hash = h <;> simp [c0, c1]
/-- the stored keys are quiet -/
theorem quiet_two {key : Value} {stored : List Value} {Q : Bool → Shared → Prop} (hk : (tupleKind (mixKind prog w)).is s.heap k t) (h0 : key = .ref t ∨ ∃ z u, key = .str z u) (hst : ∀ v ∈ stored, v = .ref t ∨ ∃ z u, v = .str z u) (h : Q false s) : wpAny (model prog w) A (tableMayTell key stored) Q E s := by
  have one : ∀ {v : Value} {Q' : Bool → Shared → Prop}, (v = .ref t ∨ ∃ z u, v = .str z u) → Q' true s → wpAny (model prog w) A (eqIsQuiet 8 v) Q' E s := fun {v Q'} hv q => by
    rcases hv with rfl | ⟨z, u, rfl⟩
    · exact (tupleKind (mixKind prog w)).quiet hk q
    · exact QuietAt.byValue (w := w) rfl A E _ q
  unfold tableMayTell
  split
  · exact wpAny_pure h
  · refine wpAny_bind (one h0 ?_)
    simp only [Bool.not_true, Bool.false_eq_true, if_false]
    refine wpAny_bind ?_
    refine wpAny_forIn_list _ (fun rest r s' => s' = s ∧ r = (none, ()) ∧ ∀ v ∈ rest, v = .ref t ∨ ∃ z u, v = .str z u) _ ?_ ?_ _ _ ⟨rfl, rfl, hst⟩
    · rintro x rest r s' ⟨rfl, rfl, hr⟩
      refine wpAny_bind (one (hr x List.mem_cons_self) ?_)
      simp only [Bool.not_true, Bool.false_eq_true, if_false]
      exact wpAny_pure ⟨rfl, rfl, fun v hv => hr v (List.mem_cons_of_mem _ hv)⟩
    · rintro r s' ⟨rfl, rfl, _⟩
      exact wpAny_pure h
/-- the text is found first -/
theorem find_sE {Q : Option Nat → Shared → Prop} (hu : A.units < cLine) (ho : s.heap.get? d = some o) (hd : o.data = .dict #[⟨h1, .str z t1, v1⟩, ⟨h2, .ref t, v2⟩] ep) (hk : (tupleKind (mixKind prog w)).is s.heap k t) (ht : s.heap.IsTuple t its) (q : Q (some 0) s) : wpAny (model prog w) A (dictFind d (.str z t1) h1) Q E s := by
  unfold dictFind
  refine wpAny_holding ?_
  refine wpAny_bind (wpAny_dictEntries ho hd ?_)
  dsimp only
  rw [places2 _ _ _ rfl]
  have nx : ¬ ((#[(⟨h1, .str z t1, v1⟩ : DictEntry), ⟨h2, .ref t, v2⟩].all fun e => isExactStrKey e.key) = true) := by
    simp [isExactStrKey]
  rw [if_neg nx]
  have eqs : ∀ {Q' : Bool → Shared → Prop}, Q' true s → wpAny (model prog w) A (eqBool (.str z t1) (.str z t1)) Q' E s := fun {Q'} q' => SeqAt.EqAt.same (.str z t1) _ _ _ _ q'
  have ep0 : ∀ {B C : Sem (Option Nat)}, wpAny (model prog w) A C Q E s → wpAny (model prog w) A (if (ep != ep) = true then B else C) Q E s := fun {B C} q => by rw [if_neg (by simp)]; exact q
  by_cases c : h2 = h1
  · subst c
    rw [if_pos rfl, if_pos rfl]
    have L : List.filterMap (fun i => (#[(⟨h2, .str z t1, v1⟩ : DictEntry), ⟨h2, .ref t, v2⟩][i]?).map (·.key)) ([0] ++ [1]) = [.str z t1, .ref t] := rfl
    rw [L, if_neg (show ¬ ((Value.str z t1 :: [Value.str z t1, Value.ref t]).all carriedByValue = true) by simp [carriedByValue]), if_neg (show ¬ (([Value.str z t1, Value.ref t] == [Value.str z t1]) = true) from fun h => by
      have := eq_of_beq h
      simp at this)]
    refine wpAny_bind (quiet_two hk (.inr ⟨_, _, rfl⟩) (fun v hv => ?_) ?_)
    · have hv : v ∈ [Value.str z t1, Value.ref t] := hv
      simp only [List.mem_cons, List.mem_nil_iff, or_false] at hv
      rcases hv with rfl | rfl
      · exact .inr ⟨_, _, rfl⟩
      · exact .inl rfl
    rw [if_neg (by simp)]
    refine wpAny_bind ?_
    show wpAny _ _ (forIn [0, 1] _ _) _ _ _
    rw [List.forIn_cons]
    refine wpAny_bind ?_
    show wpAny _ _ (if (h2 == h2) = true then _ else _) _ _ _
    rw [if_pos (by simp)]
    refine wpAny_bind (wpAny_dictEpoch ho hd (wpAny_bind (eqs (wpAny_bind (wpAny_dictEpoch ho hd ?_)))))
    show wpAny _ _ (if (ep != ep) = true then _ else _) _ _ _
    rw [if_neg (by simp)]
    rw [if_pos rfl, if_neg (by simp)]
    refine wpAny_bind (wpAny_rule ?_)
    rw [if_neg (by simp)]
    refine wpAny_pure ?_
    show wpAny _ _ (forIn [1] _ _) _ _ _
    rw [List.forIn_cons]
    refine wpAny_bind ?_
    show wpAny _ _ (if (h2 == h2) = true then _ else _) _ _ _
    rw [if_pos (by simp)]
    refine wpAny_bind (wpAny_dictEpoch ho hd (wpAny_bind (SeqAt.EqAt.tuple_str z t1 ht hu _ _ _ _ (wpAny_bind (wpAny_dictEpoch ho hd ?_)))))
    show wpAny _ _ (if (ep != ep) = true then _ else _) _ _ _
    rw [if_neg (by simp)]
    rw [if_neg (by simp)]
    refine wpAny_bind (wpAny_rule ?_)
    rw [if_neg (by simp)]
    refine wpAny_pure ?_
    show wpAny _ _ (forIn [] _ _) _ _ _
    rw [List.forIn_nil]
    exact wpAny_pure (wpAny_pure q)
  · rw [if_pos rfl, if_neg c]
    rw [if_pos (show (Value.str z t1 :: List.filterMap _ ([0] ++ [])).all carriedByValue = true from rfl)]
    unfold dictWalkPlain
    refine wpAny_bind ?_
    show wpAny _ _ (forIn [0] _ _) _ _ _
    rw [List.forIn_cons]
    refine wpAny_bind ?_
    show wpAny _ _ (if (h1 == h1) = true then _ else _) _ _ _
    rw [if_pos (by simp)]
    refine wpAny_bind (wpAny_dictEpoch ho hd (wpAny_bind (eqs (wpAny_bind (wpAny_dictEpoch ho hd ?_)))))
    show wpAny _ _ (if (ep != ep) = true then _ else _) _ _ _
    rw [if_neg (by simp)]
    show wpAny _ _ (if true = true then _ else _) _ _ _
    rw [if_pos rfl]
    exact wpAny_bind (wpAny_rule (wpAny_pure (wpAny_pure (wpAny_pure q))))
/-- the tuple is found second -/
theorem find_rE {Q : Option Nat → Shared → Prop} (hu : A.units < cLine) (ho : s.heap.get? d = some o) (hd : o.data = .dict #[⟨h1, .str z t1, v1⟩, ⟨h2, .ref t, v2⟩] ep) (hk : (tupleKind (mixKind prog w)).is s.heap k t) (ht : s.heap.IsTuple t its) (q : Q (some 1) s) : wpAny (model prog w) A (dictFind d (.ref t) h2) Q E s := by
  unfold dictFind
  refine wpAny_holding ?_
  refine wpAny_bind (wpAny_dictEntries ho hd ?_)
  dsimp only
  rw [places2 _ _ _ rfl]
  have eqs : ∀ {Q' : Bool → Shared → Prop}, Q' true s → wpAny (model prog w) A (eqBool (.ref t) (.ref t)) Q' E s := fun {Q'} q' => SeqAt.EqAt.same (.ref t) _ _ _ _ q'
  have hany : ¬ ((#[(⟨h1, .str z t1, v1⟩ : DictEntry), ⟨h2, .ref t, v2⟩].any fun e => e.key == Value.ref t && e.hash != h2) = true) := by
    rw [← Array.any_toList, List.any_eq_true]
    rintro ⟨e, hin, hc⟩
    simp only [List.mem_cons, List.mem_nil_iff, or_false] at hin
    rcases hin with rfl | rfl
    · simp at hc
    · simp at hc
  by_cases c : h1 = h2
  · subst c
    rw [if_pos rfl, if_pos rfl]
    have L : List.filterMap (fun i => (#[(⟨h1, .str z t1, v1⟩ : DictEntry), ⟨h1, .ref t, v2⟩][i]?).map (·.key)) ([0] ++ [1]) = [.str z t1, .ref t] := rfl
    rw [L, if_neg (show ¬ ((Value.ref t :: [Value.str z t1, Value.ref t]).all carriedByValue = true) by simp [carriedByValue]), if_neg hany, if_neg (show ¬ (([Value.str z t1, Value.ref t] == [Value.ref t]) = true) from fun h => by
      have := eq_of_beq h
      simp at this)]
    refine wpAny_bind (quiet_two hk (.inl rfl) (fun v hv => ?_) ?_)
    · simp only [List.mem_cons, List.mem_nil_iff, or_false] at hv
      rcases hv with rfl | rfl
      · exact .inr ⟨_, _, rfl⟩
      · exact .inl rfl
    rw [if_neg (by simp)]
    refine wpAny_bind ?_
    show wpAny _ _ (forIn [0, 1] _ _) _ _ _
    rw [List.forIn_cons]
    refine wpAny_bind ?_
    show wpAny _ _ (if (h1 == h1) = true then _ else _) _ _ _
    rw [if_pos (by simp)]
    refine wpAny_bind (wpAny_dictEpoch ho hd (wpAny_bind (SeqAt.EqAt.str_tuple z t1 ht hu _ _ _ _ (wpAny_bind (wpAny_dictEpoch ho hd ?_)))))
    show wpAny _ _ (if (ep != ep) = true then _ else _) _ _ _
    rw [if_neg (by simp)]
    rw [if_neg (by simp)]
    refine wpAny_bind (wpAny_rule ?_)
    rw [if_neg (by simp)]
    refine wpAny_pure ?_
    show wpAny _ _ (forIn [1] _ _) _ _ _
    rw [List.forIn_cons]
    refine wpAny_bind ?_
    show wpAny _ _ (if (h1 == h1) = true then _ else _) _ _ _
    rw [if_pos (by simp)]
    refine wpAny_bind (wpAny_dictEpoch ho hd (wpAny_bind (eqs (wpAny_bind (wpAny_dictEpoch ho hd ?_)))))
    show wpAny _ _ (if (ep != ep) = true then _ else _) _ _ _
    rw [if_neg (by simp)]
    rw [if_pos rfl, if_neg (by simp)]
    refine wpAny_bind (wpAny_rule ?_)
    rw [if_neg (by simp)]
    refine wpAny_pure ?_
    show wpAny _ _ (forIn [] _ _) _ _ _
    rw [List.forIn_nil]
    exact wpAny_pure (wpAny_pure q)
  · rw [if_neg c, if_pos rfl]
    have L : List.filterMap (fun i => (#[(⟨h1, .str z t1, v1⟩ : DictEntry), ⟨h2, .ref t, v2⟩][i]?).map (·.key)) ([] ++ [1]) = [.ref t] := rfl
    rw [L, if_neg (show ¬ ((Value.ref t :: [Value.ref t]).all carriedByValue = true) by simp [carriedByValue]), if_neg hany, if_pos (by simp)]
    refine wpAny_bind (wpAny_pure ?_)
    rw [if_neg (by simp)]
    refine wpAny_bind ?_
    show wpAny _ _ (forIn [1] _ _) _ _ _
    rw [List.forIn_cons]
    refine wpAny_bind ?_
    show wpAny _ _ (if (h2 == h2) = true then _ else _) _ _ _
    rw [if_pos (by simp)]
    refine wpAny_bind (wpAny_dictEpoch ho hd (wpAny_bind (eqs (wpAny_bind (wpAny_dictEpoch ho hd ?_)))))
    show wpAny _ _ (if (ep != ep) = true then _ else _) _ _ _
    rw [if_neg (by simp)]
    rw [if_pos rfl, if_neg (by simp)]
    refine wpAny_bind (wpAny_rule ?_)
    rw [if_pos (by simp)]
    exact wpAny_pure (wpAny_pure (wpAny_pure q))
theorem pairs_same {nm : String} {Q : Bool → Shared → Prop} (hs : (d == sysModules) = false) (hu : A.units < cLine) (ho : s.heap.get? d = some o) (hd : o.data = .dict #[⟨h1, .str z t1, v1⟩, ⟨h2, .ref t, v2⟩] ep) (hk : (tupleKind (mixKind prog w)).is s.heap k t) (ht : s.heap.IsTuple t its) (q : Q true s) : wpAny (model prog w) A (Builtin.Dict.samePairs nm d d) Q E s := by
  have nf : ¬ (d == sysModules) = true := by rw [hs]; exact Bool.false_ne_true
  have eq : ∀ (v : Value) {Q' : Bool → Shared → Prop}, Q' true s → wpAny (model prog w) A (eqBool v v) Q' E s := fun v {Q'} q' => SeqAt.EqAt.same v _ _ _ _ q'
  unfold Builtin.Dict.samePairs Builtin.Dict.showsAll
  rw [if_neg nf]
  refine wpAny_bind (wpAny_pure (wpAny_bind (wpAny_pure (wpAny_bind (wpAny_dictEntries ho hd ?_)))))
  dsimp only
  refine wpAny_bind (wpAny_dictEntries ho hd ?_)
  rw [if_neg (by simp)]
  refine wpAny_bind (wpAny_dictEpoch ho hd (wpAny_bind ?_))
  rw [Std.Legacy.Range.forIn_eq_forIn_range']
  simp only [Std.Legacy.Range.size, Nat.sub_zero, Nat.add_sub_cancel, Nat.div_one]
  have r : List.range' 0 (#[(⟨h1, .str z t1, v1⟩ : DictEntry), ⟨h2, .ref t, v2⟩]).size 1 = [0, 1] := rfl
  rw [r, List.forIn_cons]
  refine wpAny_bind (wpAny_bind (wpAny_dictEntries ho hd ?_))
  refine wpAny_bind (wpAny_holding (wpAny_bind (find_sE hu ho hd hk ht (wpAny_bind (wpAny_dictEntries ho hd ?_)))))
  refine wpAny_holding (eq v1 ?_)
  rw [if_neg (by decide)]
  refine wpAny_bind (wpAny_dictEpoch ho hd ?_)
  rw [if_neg (by simp)]
  refine wpAny_pure ?_
  show wpAny _ _ (forIn [1] _ _) _ _ _
  rw [List.forIn_cons]
  refine wpAny_bind (wpAny_bind (wpAny_dictEntries ho hd ?_))
  refine wpAny_bind (wpAny_holding (wpAny_bind (find_rE hu ho hd hk ht (wpAny_bind (wpAny_dictEntries ho hd ?_)))))
  refine wpAny_holding (eq v2 ?_)
  rw [if_neg (by decide)]
  refine wpAny_bind (wpAny_dictEpoch ho hd ?_)
  rw [if_neg (by simp)]
  refine wpAny_pure ?_
  show wpAny _ _ (forIn [] _ _) _ _ _
  rw [List.forIn_nil]
  exact wpAny_pure (wpAny_pure q)
/-- .. so it is equal to itself -/
theorem rc_same {Q : Value → Shared → Prop} (hs : (d == sysModules) = false) (hu : A.units + 1 < cLine) (ho : s.heap.get? d = some o) (hx : o.ExactDict) (hd : o.data = .dict #[⟨h1, .str z t1, v1⟩, ⟨h2, .ref t, v2⟩] ep) (hk : (tupleKind (mixKind prog w)).is s.heap k t) (ht : s.heap.IsTuple t its) (q : Q (.bool true) s) : wpAny (model prog w) A (richCompare .Eq (.ref d) (.ref d)) Q E s := by
  have ty : s.TypeIs (.ref d) "dict" := ⟨o, ho, hx.1⟩
  refine wpAny_richCompare_same_room (op := .Eq) ty ty PySem.F.slot_dict_eq (wpAny_call_entry PySem.F.slot_dict_eq ty PySem.F.entry_dict_eq ?_ (PySem.F.args_dict_eq_2 _ _)) (by omega)
  show wpAny _ _ (Builtin.Dict.dictSlotArgs "__eq__" ⟨[.ref d, .ref d], []⟩ >>= _) _ _ s
  refine wpAny_bind ?_
  unfold Builtin.Dict.dictSlotArgs
  refine wpAny_bind (wpAny_notOrdered_dict ty ?_)
  show wpAny _ _ (pure (Value.ref d, Value.ref d)) _ _ s
  refine wpAny_pure (wpAny_bind (wpAny_isInstance (T := "dict") ty PySem.F.sub_dict_dict ?_))
  simp only [Bool.not_true, Bool.false_eq_true, if_false]
  refine wpAny_bind (wpAny_pure (wpAny_bind (wpAny_pure ?_)))
  refine wpAny_bind (pairs_same hs (by show A.units + 1 < cLine; exact hu) ho hd hk ht ?_)
  exact wpAny_pure ⟨_, rfl, fun x => (nomatch x), q⟩
end
def rEqE (K : PySem.W.Frag) : R2 := fun x y H Q => ∃ (a : Addr) (z : Str) (t : Addr) (ks : List Key), x = .ref a ∧ y = .ref a ∧ H a = some (OddE a z t) ∧ H t = some (.tup (ks.map kV)) ∧ Q (.bl true) H
theorem op_eqE {X : Cx} (hu : X.A.units + 64 < cLine) : OpR X (compareOp .Eq) (rEqE X.K) := by
  intro pins s σ H x y v u Q I rx ry h
  obtain ⟨a, z, t, ks, rfl, rfl, ha, ht, q⟩ := h
  cases rx
  cases ry
  obtain ⟨⟨hm, o, ep, t1, v1, v2, h1, h2, g1, g2, g3⟩, _, _⟩ := (show ObjOk X.prog X.w H s.heap a (OddE a z t) from I.hok a _ ha)
  have kk := key_of I.hok ht
  obtain ⟨_, its, _, hT⟩ := (show ObjOk X.prog X.w H s.heap t (.tup (ks.map kV)) from I.hok t _ ht)
  unfold compareOp
  exact rc_same hm (by omega) g1 g2 g3 kk hT ⟨.bl true, H, I, rfl, q⟩
end Ft
set_option Elab.async false
set_option linter.all false
set_option maxRecDepth 100000
set_option maxHeartbeats 4000000
set_option pp.maxSteps 1500
namespace Ft
open PySem L2
theorem op_eqP {X : Cx} (hu : X.A.units + 64 < cLine) : OpR X (compareOp .Eq) (fun x y H Q => rEq x y H Q ∨ rEqV X.K x y H Q ∨ rEqE X.K x y H Q) := fun pins s σ H x y v u Q I rx ry h => by
  rcases h with h | h | h
  · exact op_eq pins s σ H x y v u Q I rx ry h
  · exact op_eqV hu pins s σ H x y v u Q I rx ry h
  · exact op_eqE hu pins s σ H x y v u Q I rx ry h
def AtP (H : Hp) (x y : V) : Prop := x = y ∧ (isAtom x = true ∨ (∃ a kvs, x = .ref a ∧ H a = some (.dK kvs) ∧ FlatD kvs) ∨ ∃ (a : Addr) (z : Str) (t : Addr) (ks : List Key), x = .ref a ∧ H a = some (OddE a z t) ∧ H t = some (.tup (ks.map kV)))
def SmP (H : Hp) : Nat → V → V → Prop
  | 0, x, y => AtP H x y
  | m + 1, x, y => AtP H x y ∨ ∃ a b kd xs ys, x = .ref a ∧ y = .ref b ∧ H a = some (mkO kd xs) ∧ H b = some (mkO kd ys) ∧ xs.length ≤ 16000000 ∧ Paired (SmP H m) xs ys
theorem AtP.same {H H' : Hp} {x y : V} (h : AtP H x y) (s : Same H H') : AtP H' x y := by
  obtain ⟨e, h | ⟨a, kvs, e2, h1, h2⟩ | ⟨a, z, t, ks, e2, h1, h2⟩⟩ := h
  · exact ⟨e, .inl h⟩
  · exact ⟨e, .inr (.inl ⟨a, kvs, e2, s _ _ h1, h2⟩)⟩
  · exact ⟨e, .inr (.inr ⟨a, z, t, ks, e2, s _ _ h1, s _ _ h2⟩)⟩
theorem SmP.same {H H' : Hp} (s : Same H H') : ∀ {m : Nat} {x y : V}, SmP H m x y → SmP H' m x y
  | 0, _, _, h => AtP.same h s
  | m + 1, _, _, .inl h => .inl (AtP.same h s)
  | m + 1, _, _, .inr ⟨a, b, kd, xs, ys, e1, e2, h1, h2, l, p⟩ => .inr ⟨a, b, kd, xs, ys, e1, e2, s _ _ h1, s _ _ h2, l, paired_imp p fun _ _ q => SmP.same s q⟩
/-- any odd thing is like itself -/
theorem ph_same {H : Hp} : ∀ {m : Nat} {v : V} {t : Th}, PhAt H m v t → SmP H m v v := by
  have dc : ∀ {m : Nat} {v : V}, PhAt H m v .dc → AtP H v v := fun {m v} h => by
    obtain ⟨a, o, rfl, ha, ⟨kvs, rfl, hf⟩ | ⟨z, t, ks, rfl, ht⟩⟩ := phAt_dc h
    · exact ⟨rfl, .inr (.inl ⟨a, kvs, rfl, ha, hf⟩)⟩
    · exact ⟨rfl, .inr (.inr ⟨a, z, t, ks, rfl, ha, ht⟩)⟩
  have at_ : ∀ {m : Nat} {v x : V}, PhAt H m v (.at x) → AtP H v v := fun {m v x} h => by
    obtain ⟨rfl, hs⟩ := phAt_at h
    unfold smallT at hs
    exact ⟨rfl, .inl (Bool.and_eq_true_iff.mp hs).1⟩
  intro m
  induction m with
  | zero =>
    intro v t h
    cases t with
    | «at» x => exact at_ h
    | dc => exact dc h
    | sq ts => exact h.elim
  | succ m ih =>
    intro v t h
    cases t with
    | «at» x => exact .inl (at_ h)
    | dc => exact .inl (dc h)
    | sq ts =>
      obtain ⟨a, kd, xs, rfl, ha, hl, hp⟩ := h
      have lx := paired_len hp
      refine .inr ⟨a, a, kd, xs, xs, rfl, rfl, ha, ha, by omega, ?_⟩
      have go : ∀ {xs : List V} {ts : List Th}, Paired (PhAt H m) xs ts → Paired (SmP H m) xs xs := fun {xs ts} h => by
        induction h with
        | nil => exact .nil
        | cons r _ ih2 => exact .cons (ih r) ih2
      exact go hp
def spLSameP (m : Nat) : Sp := fun vs H Q _ => ∃ (u v : V), vs = [u, v] ∧ SmP H m u v ∧ ∀ H', Same H H' → Q (.bl true) H'
section
variable {P : Program} {w : World} {K : PySem.W.Frag} {mg : Str → Option Value} {base : Heap}
theorem ok_LSameP {f : Addr} {fd : FuncData} {k m : Nat} {spF : Sp} (F : Fun K "_law_same" "_law_same" sLSame f fd) (B : Bl mg) (gLSame : Own P w K mg base k "_law_same" ["_law_found", "_law_due"] spF) (hF : ∀ e, m = e + 1 → spF = spLSameP e) : FnOk P w K mg base CX0 (k + 1) f fd ["_law_found", "_law_due"] (spLSameP m) := by
  refine F.ok scLSame (fun vs H Q E h => ?_) (fun cdv A outer s H vs Q E hr h => ?_)
  · obtain ⟨u, v, rfl, _⟩ := h
    rfl
  obtain ⟨u, v, rfl, huv, q⟩ := h
  refine ⟨_, (pss_cons (ps_if (pt_val (pe_callB call_isiTO (by rfl) B.isinstance (by decide +kernel) (pa_cons (pv 1) (pa_cons (pe_tup (pa_cons (pe_bltn (v := .ty "list") (by rfl) B.list (by decide +kernel) rfl) (pa_cons (pe_bltn (v := .ty "tuple") (by rfl) B.tuple (by decide +kernel) rfl) pa_nil))) pa_nil)))) (pss_cons (ps_if (PW.pt (pw_or (pt_cmpR op_ne (pe_callB call_isi (by rfl) B.isinstance (by decide +kernel) (pa_cons (pv 0) (pa_cons (pe_bltn (v := .ty "list") (by rfl) B.list (by decide +kernel) rfl) pa_nil))) (pe_callB call_isi (by rfl) B.isinstance (by decide +kernel) (pa_cons (pv 1) (pa_cons (pe_bltn (v := .ty "list") (by rfl) B.list (by decide +kernel) rfl) pa_nil))) (nomark _)) (pw_or1 (pt_cmpR op_ne (pe_callB call_isi (by rfl) B.isinstance (by decide +kernel) (pa_cons (pv 0) (pa_cons (pe_bltn (v := .ty "tuple") (by rfl) B.tuple (by decide +kernel) rfl) pa_nil))) (pe_callB call_isi (by rfl) B.isinstance (by decide +kernel) (pa_cons (pv 1) (pa_cons (pe_bltn (v := .ty "tuple") (by rfl) B.tuple (by decide +kernel) rfl) pa_nil))) (nomark _))))) (pss_one (ps_ret pe_bl)) pss_nil)
      (pss_one (ps_ret (pe_and (pe_cmpR op_eq (pe_callB call_len_seq (by rfl) B.len (by decide +kernel) (pa_cons (pv 0) pa_nil)) (pe_callB call_len_seq (by rfl) B.len (by decide +kernel) (pa_cons (pv 1) pa_nil)) (nomark _)) (pe_one (pe_callB (cr_all rfl) (by rfl) B.all (by decide +kernel) (pa_cons (pe_lc (own := [("_law_one", 2), ("_law_two", 3)]) (g := (gTup _ 2 (gCons (gName 2) (gCons (gName 3) gNil)))) (tt := tYes) (by rfl) scLSame.nd (pi_zipQ (by rfl) B.zip (pa_cons (pv 0) (pa_cons (pv 1) pa_nil))) (blkOk_by (own := [("_law_one", 2), ("_law_two", 3)]) (N := ["_law_found", "_law_due", "_law_one", "_law_two"]) (sc := defScope sLSame) (by decide +kernel)) (fun _ _ _ _ _ => (pg_tup (by rfl) (pgs_cons (pg_name (i := 2) scLSame.nd rfl (by first | exact Or.inl rfl | exact Or.inr rfl)) (pgs_cons (pg_name (i := 3) scLSame.nd rfl (by first | exact Or.inl rfl | exact Or.inr rfl)) pgs_nil)))) (fun _ _ _ _ _ => pts_nil) (fun _ _ _ _ _ => (pe_own gLSame (hr.mono (by omega)) (by rfl) (pa_cons (pv 2) (pa_cons (pv 3) pa_nil))))) pa_nil))))))) pss_nil)
      (pss_cons (ps_if (pt_val (pe_callB call_isiTO (by rfl) B.isinstance (by decide +kernel) (pa_cons (pv 1) (pa_cons (pe_tup (pa_cons (pe_bltn (v := .ty "bool") (by rfl) B.bool (by decide +kernel) rfl) (pa_cons (pe_bltn (v := .ty "int") (by rfl) B.int (by decide +kernel) rfl) pa_nil))) pa_nil)))) (pss_one (ps_ret (pe_and (pe_callB call_isi (by rfl) B.isinstance (by decide +kernel) (pa_cons (pv 0) (pa_cons (pe_bltn (v := .ty "int") (by rfl) B.int (by decide +kernel) rfl) pa_nil))) (pe_and (pe_cmpR op_eq (pe_callB call_isi (by rfl) B.isinstance (by decide +kernel) (pa_cons (pv 0) (pa_cons (pe_bltn (v := .ty "bool") (by rfl) B.bool (by decide +kernel) rfl) pa_nil))) (pe_callB call_isi (by rfl) B.isinstance (by decide +kernel) (pa_cons (pv 1) (pa_cons (pe_bltn (v := .ty "bool") (by rfl) B.bool (by decide +kernel) rfl) pa_nil))) (nomark _)) (pe_one (pe_cmpR (op_eqP hr.units) (pv 0) (pv 1) (nomark _))))))) pss_nil)
      (pss_one (ps_ret (pe_and (pe_not (pe_callB call_isiTO (by rfl) B.isinstance (by decide +kernel) (pa_cons (pv 0) (pa_cons (pe_tup (pa_cons (pe_bltn (v := .ty "bool") (by rfl) B.bool (by decide +kernel) rfl) (pa_cons (pe_bltn (v := .ty "list") (by rfl) B.list (by decide +kernel) rfl) (pa_cons (pe_bltn (v := .ty "tuple") (by rfl) B.tuple (by decide +kernel) rfl) pa_nil)))) pa_nil)))) (pe_one (pe_cmpR (op_eqP hr.units) (pv 0) (pv 1) (nomark _)))))))), ?_⟩
  refine ⟨_, rfl, (by show 2 ≤ sizeLine; decide), fun t0 nt => ?_⟩
  have s0 : Same H (upd H t0 (.tup [.ty "list", .ty "tuple"])) := Same.new nt
  have ht0 : (upd H t0 (.tup [.ty "list", .ty "tuple"])) t0 = some (.tup [.ty "list", .ty "tuple"]) := upd_same
  have one : AtP H u v ∨ ∃ e, m = e + 1 ∧ ∃ a b kd xs ys, u = .ref a ∧ v = .ref b ∧ H a = some (mkO kd xs) ∧ H b = some (mkO kd ys) ∧ xs.length ≤ 16000000 ∧ Paired (SmP H e) xs ys := by
    cases m with
    | zero => exact .inl huv
    | succ m =>
      rcases huv with h | h
      · exact .inl h
      · exact .inr ⟨m, rfl, h⟩
  rcases one with ⟨rfl, hx | ⟨a, kvs, rfl, hd, hf⟩ | ⟨a, z, y, ks, rfl, hd, hy⟩⟩ | ⟨m', rfl, a, b, kd, xs, ys, rfl, rfl, ha, hb, hl, hxy⟩
  · have s00 := s0
    refine ⟨_, t0, _, _, _, _, rfl, upd_same, clsV_all ["list", "tuple"], .inl (atom_ty hx), kitAny_of (atom_lt hx), false, rfl, iteF ?_⟩
    generalize hG : upd H t0 _ = G at *
    refine ⟨_, rfl, (by show 2 ≤ sizeLine; decide), fun t1 nt1 => ?_⟩
    have s1 : Same H (upd G t1 (.tup [.ty "bool", .ty "int"])) := Same.trans s0 (Same.new nt1)
    refine ⟨_, t1, _, _, _, _, rfl, upd_same, clsV_all ["bool", "int"], .inl (atom_ty hx), kitAny_of (atom_bi hx), _, rfl, ?_⟩
    generalize hG1 : upd G t1 _ = G1 at *
    have sc : scal u u = true := by cases u <;> first | rfl | cases hx
    cases hib : isIntB u with
    | true =>
      refine iteT ⟨_, rfl, _, _, _, _, _, rfl, .ty _, atom_ty hx, kit_ty (atom_int hx), _, rfl, ?_⟩
      rw [hib]
      refine iteT ⟨_, rfl, _, _, _, _, _, rfl, .ty _, atom_ty hx, kit_ty (atom_bool hx), _, rfl, _, _, _, _, _, rfl, .ty _, atom_ty hx, kit_ty (atom_bool hx), rfl, _, rfl, ?_⟩
      rw [decide_eq_true (rfl : V.bl (isBl u) = V.bl (isBl u))]
      refine iteT ⟨_, rfl, _, rfl, .inl ⟨sc, ?_⟩⟩
      rw [decide_eq_true (rfl : u = u)]
      exact q _ s1
    | false =>
      first
      | (refine iteF ⟨_, rfl, (by show 3 ≤ sizeLine; decide), fun t2 nt2 => ?_⟩
         have s2 : Same H (upd G1 t2 (.tup [.ty "bool", .ty "list", .ty "tuple"])) := Same.trans s1 (Same.new nt2)
         refine ⟨_, t2, _, _, _, _, rfl, upd_same, clsV_all ["bool", "list", "tuple"], .inl (atom_ty hx), kitAny_of (atom_blt hx hib), false, rfl, true, rfl, iteT ⟨_, rfl, _, rfl, .inl ⟨sc, ?_⟩⟩⟩
         rw [decide_eq_true (rfl : u = u)]
         exact q _ s2)
      | (refine iteF ⟨_, rfl, (by show 4 ≤ sizeLine; decide), fun t2 nt2 => ?_⟩
         have s2 : Same H (upd G1 t2 (.tup [.ty "bool", .ty "int", .ty "list", .ty "tuple"])) := Same.trans s1 (Same.new nt2)
         refine ⟨_, t2, _, _, _, _, rfl, upd_same, clsV_all ["bool", "int", "list", "tuple"], .inl (atom_ty hx), kitAny_of (atom_bilt hx hib), false, rfl, true, rfl, iteT ⟨_, rfl, _, rfl, .inl ⟨sc, ?_⟩⟩⟩
         rw [decide_eq_true (rfl : u = u)]
         exact q _ s2)

  · refine ⟨_, t0, _, _, _, _, rfl, ht0, clsV_all ["list", "tuple"], .inl (dict_ty (s0 _ _ hd)), kitAny_of (b := false) (by decide +kernel), false, rfl, iteF ?_⟩
    generalize hG : upd H t0 _ = G at *
    refine ⟨_, rfl, (by show 2 ≤ sizeLine; decide), fun t1 nt1 => ?_⟩
    have s1 : Same H (upd G t1 (.tup [.ty "bool", .ty "int"])) := Same.trans s0 (Same.new nt1)
    refine ⟨_, t1, _, _, _, _, rfl, upd_same, clsV_all ["bool", "int"], .inl (dict_ty (s1 _ _ hd)), kitAny_of (b := false) (by decide +kernel), _, rfl, ?_⟩
    generalize hG1 : upd G t1 _ = G1 at *
    refine iteF ?_
    first
    | (refine ⟨_, rfl, (by show 3 ≤ sizeLine; decide), fun t2 nt2 => ?_⟩
       have s2 : Same H (upd G1 t2 (.tup [.ty "bool", .ty "list", .ty "tuple"])) := Same.trans s1 (Same.new nt2)
       refine ⟨_, t2, _, _, _, _, rfl, upd_same, clsV_all ["bool", "list", "tuple"], .inl (dict_ty (s2 _ _ hd)), kitAny_of (b := false) (by decide +kernel), false, rfl, true, rfl, iteT ⟨_, rfl, _, rfl, .inr (.inl ⟨1, by decide, dict_selfR (s2 _ _ hd) hf, ?_⟩)⟩⟩
       exact q _ s2)
    | (refine ⟨_, rfl, (by show 4 ≤ sizeLine; decide), fun t2 nt2 => ?_⟩
       have s2 : Same H (upd G1 t2 (.tup [.ty "bool", .ty "int", .ty "list", .ty "tuple"])) := Same.trans s1 (Same.new nt2)
       refine ⟨_, t2, _, _, _, _, rfl, upd_same, clsV_all ["bool", "int", "list", "tuple"], .inl (dict_ty (s2 _ _ hd)), kitAny_of (b := false) (by decide +kernel), false, rfl, true, rfl, iteT ⟨_, rfl, _, rfl, .inr (.inl ⟨1, by decide, dict_selfR (s2 _ _ hd) hf, ?_⟩)⟩⟩
       exact q _ s2)
  · have tyO : ∀ {H' : Hp}, Same H H' → TyO K H' (.ref a) (.type "dict") := fun {H'} s => .inr ⟨a, z, y, rfl, s _ _ hd, rfl⟩
    refine ⟨_, t0, _, _, _, _, rfl, ht0, clsV_all ["list", "tuple"], tyO s0, kitAny_of (b := false) (by decide +kernel), false, rfl, iteF ?_⟩
    generalize hG : upd H t0 _ = G at *
    refine ⟨_, rfl, (by show 2 ≤ sizeLine; decide), fun t1 nt1 => ?_⟩
    have s1 : Same H (upd G t1 (.tup [.ty "bool", .ty "int"])) := Same.trans s0 (Same.new nt1)
    refine ⟨_, t1, _, _, _, _, rfl, upd_same, clsV_all ["bool", "int"], tyO s1, kitAny_of (b := false) (by decide +kernel), _, rfl, ?_⟩
    generalize hG1 : upd G t1 _ = G1 at *
    refine iteF ⟨_, rfl, (by show 3 ≤ sizeLine; decide), fun t2 nt2 => ?_⟩
    have s2 : Same H (upd G1 t2 (.tup [.ty "bool", .ty "list", .ty "tuple"])) := Same.trans s1 (Same.new nt2)
    refine ⟨_, t2, _, _, _, _, rfl, upd_same, clsV_all ["bool", "list", "tuple"], tyO s2, kitAny_of (b := false) (by decide +kernel), false, rfl, true, rfl, iteT ⟨_, rfl, _, rfl, .inr (.inr ⟨a, z, y, ks, rfl, rfl, s2 _ _ hd, s2 _ _ hy, ?_⟩)⟩⟩
    exact q _ s2
  · have eF := hF m' rfl
    subst eF
    have ha0 := s0 _ _ ha
    have hb0 := s0 _ _ hb
    refine ⟨_, t0, _, _, _, _, rfl, upd_same, clsV_all ["list", "tuple"], .inl (seq_ty hb0), kitAny_of (seq_lt kd), true, rfl, iteT ?_⟩
    have lx : xs.length = ys.length := paired_len hxy
    generalize hG : upd H t0 _ = G at *
    refine ⟨_, rfl, _, _, _, _, _, rfl, .ty _, seq_ty ha0, kit_ty (seqT_list kd), _, rfl, _, _, _, _, _, rfl, .ty _, seq_ty hb0, kit_ty (seqT_list kd), rfl, _, rfl, ?_⟩
    rw [decide_eq_true (rfl : V.bl kd = V.bl kd)]
    refine iteF ⟨_, rfl, _, _, _, _, _, rfl, .ty _, seq_ty ha0, kit_ty (seqT_tuple kd), _, rfl, _, _, _, _, _, rfl, .ty _, seq_ty hb0, kit_ty (seqT_tuple kd), rfl, _, rfl, ?_⟩
    rw [decide_eq_true (rfl : V.bl (!kd) = V.bl (!kd))]
    refine iteF ?_
    refine ⟨_, rfl, a, xs, rfl, sqa_of (sq_of ha0), _, rfl, b, ys, rfl, sqa_of (sq_of hb0), rfl, _, rfl, ?_⟩
    have el : decide (V.int ((xs.length : Nat) : Int) = V.int ((ys.length : Nat) : Int)) = true := decide_eq_true (by rw [lx])
    rw [el]
    refine iteT ⟨_, rfl, _, rfl, a, b, kd, kd, xs, ys, rfl, sq_of ha0, sq_of hb0, fun L nL => ?_⟩
    refine lc_it (walk_zipQ (n := xs.length) (by omega)) (fun i H' => Same G H' ∧ H' L = some (.lst (List.replicate i (.bl true))))
      ⟨Same.new nL, upd_same⟩ (fun i H' _ ⟨sm, _⟩ => ⟨sq_of (sm _ _ ha0), sq_of (sm _ _ hb0)⟩) ?_ ?_
    · rintro i x H1 H2 hi ⟨sm, hL⟩ ⟨T, x1, x2, rfl, nT, rfl, e1, e2⟩
      obtain ⟨x2', e2', r⟩ := paired_get hxy e1
      have e22 : some x2' = some x2 := e2'.symm.trans e2
      obtain rfl : x2 = x2' := (Option.some.inj e22).symm
      have s5 : Same H (upd H1 T (.tup [x1, x2])) := Same.trans s0 (Same.trans sm (Same.new nT))
      have nLT : L ≠ T := ne_of_none hL nT
      refine ⟨T, _, rfl, SqT.of upd_same, rfl, _, _, rfl, _, _, rfl, rfl, rfl, ?_⟩
      refine ⟨_, rfl, _, rfl, x1, x2, rfl, SmP.same s5 r, fun H3 s6 => ?_⟩
      refine ⟨_, s6 _ _ (by rw [upd_ne nLT]; exact hL), by rw [List.length_replicate]; exact big (by omega), Same.upN (Same.trans sm (Same.trans (Same.new nT) s6)) nL, ?_⟩
      rw [upd_same, List.replicate_succ']
    · rintro H1 ⟨sm, hL⟩
      refine ⟨L, List.replicate xs.length true, rfl, SqL.of (by rw [hL, List.map_replicate]), ?_⟩
      have ea : (List.replicate xs.length true).all id = true := by
        rw [List.all_eq_true]
        intro b hb
        rw [List.eq_of_mem_replicate hb]; rfl
      rw [ea]
      exact q _ (Same.trans s0 sm)
theorem lsameP_ok {f : Addr} {fd : FuncData} (F : Fun K "_law_same" "_law_same" sLSame f fd) (B : Bl mg) (m : mg "_law_same" = some (.ref f)) (b : Binds K fd ["_law_found", "_law_due"] []) : ∀ d : Nat, Own P w K mg base (1 + d) "_law_same" ["_law_found", "_law_due"] (spLSameP d)
  | 0 => own_mk F m b (ok_LSameP (k := 0) F B (own_mk F m b fn_false) (fun e h => absurd h (by omega)))
  | d + 1 => own_mk F m b (ok_LSameP (k := 1 + d) F B (lsameP_ok F B m b d) (fun e h => by
      have : d = e := by omega
      rw [this]))
end
end Ft
set_option Elab.async false
set_option linter.all false
set_option maxRecDepth 100000
set_option maxHeartbeats 1000000
namespace Ft
open PySem PySem.Spec PyProof.Rows L2 TL
abbrev sh (d : PyData) : List Nat := tl d.shown
mutual
def pl : PyData → Bool
  | .none => true
  | .bool _ => true
  | .int _ => true
  | .str z => z.cps.toList.all fun c => decide (97 ≤ c ∧ c ≤ 122)
  | .list xs => plAll xs
  | .tuple xs => plAll xs
  | .dict _ => false
def plAll : List PyData → Bool
  | [] => true
  | x :: xs => pl x && plAll xs
end
def jr : List (List Nat) → List Nat
  | [] => []
  | y :: r => 44 :: 32 :: (y ++ jr r)
def jl : List (List Nat) → List Nat
  | [] => []
  | x :: r => x ++ jr r
theorem tl_sep : tl (", " : Str) = [44, 32] := by decide +kernel
theorem tl_from : ∀ (ts : List Str) (k : Nat) (acc : Str), tl (textFrom k acc ts) = tl acc ++ (if k = 0 then jl (ts.map tl) else jr (ts.map tl))
  | [], k, acc => by
    show tl acc = _
    split <;> exact (List.append_nil _).symm
  | t :: ts, k, acc => by
    show tl (textFrom (k + 1) (acc ++ (if k > 0 then ", " else "" : String) ++ t) ts) = _
    rw [tl_from ts (k + 1), if_neg (Nat.succ_ne_zero k), tl_append, tl_append]
    by_cases h : k = 0
    · subst h
      rw [if_pos rfl, if_neg (Nat.lt_irrefl 0)]
      show tl acc ++ [] ++ tl t ++ _ = _ ++ (tl t ++ jr (ts.map tl))
      rw [List.append_nil, List.append_assoc]
    · rw [if_neg h, if_pos (Nat.pos_of_ne_zero h), show tl (Str.ofString (", " : String)) = [44, 32] from tl_sep]
      show tl acc ++ [44, 32] ++ tl t ++ _ = tl acc ++ (44 :: 32 :: (tl t ++ jr (ts.map tl)))
      simp only [List.append_assoc]
      rfl
theorem tl_join : ∀ ts : List Str, tl (Str.join ", " ts) = jl (ts.map tl)
  | [] => rfl
  | [x] => (List.append_nil _).symm
  | x :: y :: r => by
    show tl (x ++ (", " : Str) ++ Str.join ", " (y :: r)) = _
    rw [tl_append, tl_append, tl_join (y :: r), tl_sep]
    show tl x ++ [44, 32] ++ (tl y ++ jr (r.map tl)) = tl x ++ (44 :: 32 :: (tl y ++ jr (r.map tl)))
    simp only [List.append_assoc]
    rfl
theorem map_shown (xs : List PyData) : (PyData.shownAll xs).map tl = xs.map sh := by
  induction xs with
  | nil => rfl
  | cons x xs ih => rw [PyData.shownAll, List.map_cons, List.map_cons, ih]
theorem sh_list (xs : List PyData) : sh (.list xs) = 91 :: (jl (xs.map sh) ++ [93]) := by
  show tl (PyData.shown (.list xs)) = _
  rw [PyData.shown]
  unfold listText
  rw [tl_append, tl_from, if_pos rfl, map_shown]
  rfl
theorem len_shown (xs : List PyData) : (PyData.shownAll xs).length = xs.length := by
  have := congrArg List.length (map_shown xs)
  rwa [List.length_map, List.length_map] at this
def endT (n : Nat) : List Nat := if n = 1 then [44, 41] else [41]
theorem sh_tuple (xs : List PyData) : sh (.tuple xs) = 40 :: (jl (xs.map sh) ++ endT xs.length) := by
  show tl (PyData.shown (.tuple xs)) = _
  rw [PyData.shown]
  unfold tupleText endT
  rw [tl_append, tl_append, tl_join, map_shown, len_shown]
  by_cases h : xs.length = 1
  · rw [if_pos h, if_pos (by rw [h]; rfl)]; rfl
  · rw [if_neg h, if_neg (by simpa using h)]; rfl
theorem sh_ofNat (m : Nat) : sh (.int (Int.ofNat m)) = (Nat.toDigits 10 m).map Char.toNat := PySem.W.KIN.signs_num m
theorem sh_neg (m : Nat) : sh (.int (Int.negSucc m)) = 45 :: (Nat.toDigits 10 (m + 1)).map Char.toNat := by
  show (Str.ofString (toString (Int.negSucc m))).cps.toList = _
  rw [signs_ofString, show toString (Int.negSucc m) = "-" ++ Nat.repr (m + 1) from rfl, String.toList_append, List.map_append, Nat.toList_repr]
  rfl
theorem letters_plain : ((List.range 26).all fun c => decide (PySem.Builtin.Str.reprChar 39 (97 + c) = [97 + c])) = true := by kernel_rfl
theorem letter_plain {c : Nat} (h : 97 ≤ c ∧ c ≤ 122) : PySem.Builtin.Str.reprChar 39 c = [c] := by
  have := of_decide_eq_true (List.all_eq_true.mp letters_plain (c - 97) (List.mem_range.mpr (by omega)))
  rwa [show 97 + (c - 97) = c by omega] at this
theorem sh_str {z : Str} (h : pl (.str z) = true) : sh (.str z) = 39 :: (tl z ++ [39]) := by
  have hl : ∀ c ∈ tl z, 97 ≤ c ∧ c ≤ 122 := fun c hc => by
    rw [pl] at h
    exact of_decide_eq_true (List.all_eq_true.mp h c hc)
  have no : z.cps.contains 39 = false := by
    rw [← Array.contains_toList]
    rw [Bool.eq_false_iff]
    intro e
    have := hl 39 (List.contains_iff_mem.mp e)
    omega
  have fold : ∀ (l : List Nat) (acc : Array Nat), (∀ c ∈ l, 97 ≤ c ∧ c ≤ 122) → (l.foldl (fun out c => out ++ (PySem.Builtin.Str.reprChar 39 c).toArray) acc).toList = acc.toList ++ l := by
    intro l
    induction l with
    | nil => intro acc _; exact (List.append_nil _).symm
    | cons c l ih =>
      intro acc hl
      rw [List.foldl_cons, ih _ fun y hy => hl y (by simp [hy]), letter_plain (hl c (by simp))]
      simp
  show tl (PyData.shown (.str z)) = _
  rw [PyData.shown]
  unfold reprText
  have q : reprQuote z = 39 := by unfold reprQuote; rw [no]; rfl
  rw [q]
  show (Array.push _ 39).toList = _
  rw [Array.toList_push, ← Array.foldl_toList, fold _ _ hl]
  rfl
/-- the first sign tells the kind -/
def kindOf (d : PyData) : Nat := match d with
  | .none => 1 | .bool true => 2 | .bool false => 3 | .int _ => 4 | .str _ => 5 | .list _ => 6 | .tuple _ => 7 | .dict _ => 8
def en (e : List Nat) : Prop := e = [93] ∨ e = [41] ∨ e = [44, 41]
end Ft
set_option Elab.async false
set_option linter.all false
set_option maxRecDepth 100000
set_option maxHeartbeats 2000000
set_option pp.maxSteps 900
namespace Ft
open PySem PySem.Spec PyProof.Rows L2 TL
mutual
def lnT : DT → Nat
  | .at (.str z) => z.length + 2
  | .at _ => 160
  | .sq _ ts => lnTs ts + 4
def lnTs : List DT → Nat
  | [] => 0
  | t :: ts => lnT t + 2 + lnTs ts
end
def atT : V → Bool
  | .str z => z.cps.toList.all fun c => decide (97 ≤ c ∧ c ≤ 122)
  | .int i => decide (i.natAbs < 10 ^ 150)
  | .bl _ => true
  | .non => true
  | _ => false
mutual
def okT : DT → Bool
  | .at x => atT x
  | .sq _ ts => okTs ts
def okTs : List DT → Bool
  | [] => true
  | t :: ts => okT t && okTs ts
end
theorem len_cps (z : Str) : z.length = z.cps.toList.length := (Array.length_toList (xs := z.cps)).symm
theorem log_1920 {n : Nat} (h : n < 10 ^ 150) : n.log2 < 1920 := by
  by_cases c : n = 0
  · subst c; rw [Nat.log2_zero]; decide
  · rw [Nat.log2_lt c]
    exact Nat.lt_of_lt_of_le h (by decide +kernel)
theorem at_tx : ∀ x : V, atT x = true → (sh (aD x)).length ≤ lnT (.at x) ∧ (aD x).showable = true ∧ (aD x).hasDict = false
  | .str z, h => by
    have h : pl (.str z) = true := by rw [pl]; exact h
    refine ⟨?_, by show PyData.showable (.str z) = true; rw [PyData.showable], by show PyData.hasDict (.str z) = false; rw [PyData.hasDict]⟩
    show (sh (.str z)).length ≤ _
    rw [sh_str h, lnT, len_cps]
    show (tl z ++ [39]).length + 1 ≤ _
    rw [List.length_append]
    show (tl z).length + 1 + 1 ≤ (tl z).length + 2
    omega
  | .int i, h => by
    have h : i.natAbs < 10 ^ 150 := of_decide_eq_true (show decide (i.natAbs < 10 ^ 150) = true from h)
    refine ⟨?_, by show PyData.showable (.int i) = true; rw [PyData.showable]; exact decide_eq_true (log_1920 h), by show PyData.hasDict (.int i) = false; rw [PyData.hasDict]⟩
    show (sh (.int i)).length ≤ 160
    cases i with
    | ofNat m =>
      rw [sh_ofNat, List.length_map]
      have := digits10_le (k := 150) (n := m) (by decide) h
      omega
    | negSucc m =>
      rw [sh_neg, List.length_cons, List.length_map]
      have := digits10_le (k := 150) (n := m + 1) (by decide) h
      omega
  | .bl b, _ => by
    refine ⟨?_, by show PyData.showable (.bool b) = true; rw [PyData.showable], by show PyData.hasDict (.bool b) = false; rw [PyData.hasDict]⟩
    have : (sh (.bool b)).length ≤ 5 := by cases b <;> decide +kernel
    exact Nat.le_trans this (by show 5 ≤ 160; decide)
  | .non, _ => ⟨by have : (sh .none).length ≤ 5 := by decide +kernel
                   exact Nat.le_trans this (by show 5 ≤ 160; decide), by show PyData.showable .none = true; rw [PyData.showable], by show PyData.hasDict .none = false; rw [PyData.hasDict]⟩
mutual
theorem dt_tx : ∀ t : DT, okT t = true → (sh (dtD t)).length ≤ lnT t ∧ (dtD t).showable = true ∧ (dtD t).hasDict = false
  | .at x, h => by rw [okT] at h; rw [dtD]; exact at_tx x h
  | .sq true ts, h => by
    rw [okT] at h
    obtain ⟨h1, _, h3, h4⟩ := dts_tx ts h
    refine ⟨?_, by rw [dtD, PyData.showable]; exact h3, by rw [dtD, PyData.hasDict]; exact h4⟩
    rw [dtD, sh_list, lnT, List.length_cons, List.length_append]
    show _ + 1 + 1 ≤ _
    omega
  | .sq false ts, h => by
    rw [okT] at h
    obtain ⟨h1, _, h3, h4⟩ := dts_tx ts h
    refine ⟨?_, by rw [dtD, PyData.showable]; exact h3, by rw [dtD, PyData.hasDict]; exact h4⟩
    rw [dtD, sh_tuple, lnT, List.length_cons, List.length_append]
    have : (endT (dtDs ts).length).length ≤ 2 := by unfold endT; split <;> decide
    omega
theorem dts_tx : ∀ ts : List DT, okTs ts = true → (jl ((dtDs ts).map sh)).length ≤ lnTs ts ∧ (jr ((dtDs ts).map sh)).length ≤ lnTs ts ∧ PyData.showableAll (dtDs ts) = true ∧ PyData.hasDictAll (dtDs ts) = false
  | [], _ => by rw [dtDs]; exact ⟨Nat.le_refl _, Nat.le_refl _, by rw [PyData.showableAll], by rw [PyData.hasDictAll]⟩
  | t :: ts, h => by
    rw [okTs, Bool.and_eq_true] at h
    obtain ⟨a1, a2, a3⟩ := dt_tx t h.1
    obtain ⟨b1, b2, b3, b4⟩ := dts_tx ts h.2
    rw [dtDs, lnTs, List.map_cons]
    refine ⟨?_, ?_, by rw [PyData.showableAll, a2, b3]; rfl, by rw [PyData.hasDictAll, a3, b4]; rfl⟩
    · show (sh (dtD t) ++ jr ((dtDs ts).map sh)).length ≤ _
      rw [List.length_append]; omega
    · show (44 :: 32 :: (sh (dtD t) ++ jr ((dtDs ts).map sh))).length ≤ _
      rw [List.length_cons, List.length_cons, List.length_append]; omega
end
theorem shown_len {t : DT} (h : okT t = true) : (dtD t).shown.length ≤ lnT t := by rw [len_cps]; exact (dt_tx t h).1
theorem lnTs_map {α : Type} {f : α → DT} {B : Nat} : ∀ l : List α, (∀ a ∈ l, lnT (f a) ≤ B) → lnTs (l.map f) ≤ l.length * (B + 2)
  | [], _ => by rw [List.map_nil, lnTs]; exact Nat.zero_le _
  | a :: l, h => by
    rw [List.map_cons, lnTs, List.length_cons, Nat.add_mul, Nat.one_mul]
    have h1 := h a (by simp)
    have h2 := lnTs_map l fun b hb => h b (by simp [hb])
    omega
theorem okTs_map {α : Type} {f : α → DT} : ∀ l : List α, (∀ a ∈ l, okT (f a) = true) → okTs (l.map f) = true
  | [], _ => by rw [List.map_nil, okTs]
  | a :: l, h => by
    rw [List.map_cons, okTs, h a (by simp), okTs_map l fun b hb => h b (by simp [hb])]
    rfl
theorem isW_tx {z : Str} (h : isW z = true) : okT (.at (.str z)) = true ∧ lnT (.at (.str z)) ≤ 10 := by
  unfold isW at h
  simp only [Bool.and_eq_true] at h
  obtain ⟨_, h2, h3⟩ := h
  have := of_decide_eq_true h2
  refine ⟨?_, by rw [lnT]; omega⟩
  rw [okT]
  refine List.all_eq_true.mpr fun c hc => ?_
  have := List.all_eq_true.mp h3 c hc
  simp only [Bool.and_eq_true, decide_eq_true_eq] at this
  exact decide_eq_true this
theorem int_tx {i : Int} (h : i.natAbs < 10 ^ 150) : okT (.at (.int i)) = true ∧ lnT (.at (.int i)) ≤ 160 := ⟨by rw [okT]; exact decide_eq_true h, by
  refine Nat.le_of_eq (lnT.eq_2 _ ?_)
  intro z h
  cases h⟩
theorem sq_txk {kd : Bool} {a b : DT} {A B : Nat} (ha : okT a = true ∧ lnT a ≤ A) (hb : okT b = true ∧ lnT b ≤ B) : okT (.sq kd [a, b]) = true ∧ lnT (.sq kd [a, b]) ≤ A + B + 8 := by
  refine ⟨by simp only [okT, okTs, ha.1, hb.1, Bool.and_self], ?_⟩
  simp only [lnT, lnTs]
  have := ha.2
  have := hb.2
  omega
theorem map_tx {α : Type} {kd : Bool} {f : α → DT} {B : Nat} {l : List α} (h : ∀ a ∈ l, okT (f a) = true ∧ lnT (f a) ≤ B) : okT (.sq kd (l.map f)) = true ∧ lnT (.sq kd (l.map f)) ≤ l.length * (B + 2) + 4 := by
  refine ⟨by rw [okT]; exact okTs_map l fun a ha => (h a ha).1, ?_⟩
  rw [lnT]
  have := lnTs_map l fun a ha => (h a ha).2
  omega
end Ft
set_option Elab.async false
set_option linter.all false
set_option maxRecDepth 100000
set_option maxHeartbeats 2000000
set_option pp.maxSteps 900
namespace Ft
open PySem PySem.Spec PyProof.Rows L2 TL
mutual
theorem okT_dtOk : ∀ t : DT, okT t = true → dtOk t = true
  | .at x, h => by
    rw [okT] at h
    cases x with
    | str z =>
      rw [dtOk]
      unfold PyData.strOk
      rw [Array.all_eq_true']
      intro c hc
      have := of_decide_eq_true (List.all_eq_true.mp (show (tl z).all (fun c => decide (97 ≤ c ∧ c ≤ 122)) = true from h) c (Array.mem_toList_iff.mpr hc))
      exact decide_eq_true (by omega)
    | _ => rfl
  | .sq _ ts, h => by rw [okT] at h; rw [dtOk]; exact okTs_dtOks ts h
theorem okTs_dtOks : ∀ ts : List DT, okTs ts = true → dtOks ts = true
  | [], _ => by rw [dtOks]
  | t :: ts, h => by
    rw [okTs, Bool.and_eq_true] at h
    rw [dtOks, okT_dtOk t h.1, okTs_dtOks ts h.2]; rfl
end
/-- the text of data -/
def txD (t : DT) : Str := (dtD t).shown
def rReprD (K : PySem.W.Frag) : List V → Hp → VK → Prop := fun xs H Q => ∃ (a : Addr) (d : PyData), xs = [.ref a] ∧ Dp K H (.ref a) d ∧ d.depth ≤ 60 ∧ d.showable = true ∧ d.hasDict = false ∧ d.shown.length ≤ sizeLine ∧ Q (.str d.shown) H
theorem cr_reprD {X : Cx} (gd : X.A.guards = some []) (hu : X.A.units + 65 < cLine) : CallR X (.builtin "repr") (rReprD X.K) := call_reprD gd hu
theorem reprQ {K : PySem.W.Frag} {H : Hp} {m : Nat} {a : Addr} {t : DT} {Q : VK} (hd : DtAt H m (.ref a) t) (hm : m ≤ 60) (h : okT t = true) (hl : lnT t ≤ sizeLine) (q : Q (.str (txD t)) H) : rReprD K [.ref a] H Q :=
  ⟨a, dtD t, rfl, dp_dt m _ t hd, Nat.le_trans (lay_dt m _ t hd (okT_dtOk t h)).2 hm, (dt_tx t h).2.1, (dt_tx t h).2.2, Nat.le_trans (shown_len h) hl, q⟩
end Ft
set_option Elab.async false
set_option linter.all false
set_option maxRecDepth 100000
set_option maxHeartbeats 2000000
set_option pp.maxSteps 5000
set_option pp.deepTerms.threshold 10
namespace Ft
open PySem L2
theorem spots_short7 {lib : Lib} {q : Str × List Int} (h : q ∈ spotsL lib) : q.2.length ≤ 7 := by
  obtain ⟨m, _, hq⟩ := List.mem_flatMap.mp h
  unfold spotsM at hq
  obtain ⟨w, hw, e⟩ := List.mem_map.mp hq
  have hw2 := (List.mem_filter.mp hw).1
  obtain ⟨p, _, hp⟩ := List.mem_flatMap.mp hw2
  have := rowW_shortD 3 [] p.1 p.2 w hp
  rw [← e]
  show w.1.length ≤ 7
  simp at this
  omega
/-- what is passed: a place, in tuples or lists -/
abbrev PK : Type := Pl × Bool × Bool
def LsAt (a L : Addr) (H : Hp) (v : V) (q : PK) : Prop := ∃ T b, v = .ref T ∧ T ≠ a ∧ T ≠ L ∧ b ≠ a ∧ b ≠ L ∧ H T = some (mkO q.2.1 [.str q.1.1, .ref b]) ∧ H b = some (mkO q.2.2 (q.1.2.map V.int))
theorem LsAt.to {a L : Addr} {H H' : Hp} {v : V} {q : PK} (h : LsAt a L H v q) (f : ∀ b o, b ≠ a → b ≠ L → H b = some o → H' b = some o) : LsAt a L H' v q := by
  obtain ⟨T, b, e, h1, h2, h3, h4, h5, h6⟩ := h
  exact ⟨T, b, e, h1, h2, h3, h4, f _ _ h1 h2 h5, f _ _ h3 h4 h6⟩
def pkD (q : PK) : DT := .sq q.2.1 [.at (.str q.1.1), .sq q.2.2 (q.1.2.map fun i => .at (.int i))]
theorem LsAt.dt {a L : Addr} {H : Hp} {v : V} {q : PK} (h : LsAt a L H v q) (hl : q.1.2.length ≤ 100) : DtAt H 2 v (pkD q) := by
  obtain ⟨T, b, e, _, _, _, _, h5, h6⟩ := h
  exact ⟨T, _, e, h5, by show 2 ≤ 16000000; decide, .cons ⟨rfl, rfl⟩ (.cons ⟨b, _, rfl, h6, by rw [List.length_map]; omega, ints_dt _⟩ .nil)⟩
theorem LsAt.ph {a L : Addr} {H : Hp} {v : V} {q : PK} (h : LsAt a L H v q) (hz : q.1.1.length ≤ 1000) (hl : q.1.2.length ≤ 100) : PhAt H 2 v (plTh q.1) := by
  obtain ⟨T, b, e, _, _, _, _, h5, h6⟩ := h
  rw [e]
  exact plTh_at h5 h6 hz hl
theorem pk_tx {q : PK} (hz : isW q.1.1 = true) (hl : q.1.2.length ≤ 7) (hi : ∀ i ∈ q.1.2, 0 ≤ i ∧ i < 24) : okT (pkD q) = true ∧ lnT (pkD q) ≤ 2000 := by
  have h1 := isW_tx hz
  have h2 : okT (.sq q.2.2 (q.1.2.map fun i => .at (.int i))) = true ∧ lnT (.sq q.2.2 (q.1.2.map fun i => .at (.int i))) ≤ 1200 := by
    have m := map_tx (kd := q.2.2) (f := fun i : Int => DT.at (.int i)) (B := 160) (l := q.1.2) fun i hi' => int_tx (by
      have := hi i hi'
      have e : (24 : Nat) ≤ 10 ^ 150 := by decide +kernel
      omega)
    refine ⟨m.1, Nat.le_trans m.2 ?_⟩
    have : q.1.2.length * (160 + 2) ≤ 7 * 162 := Nat.mul_le_mul_right _ hl
    omega
  have h3 := sq_txk (kd := q.2.1) h1 h2
  exact ⟨h3.1, Nat.le_trans h3.2 (by omega)⟩
theorem dt_smP {H : Hp} : ∀ {m : Nat} {u v : V} {t : DT}, DtAt H m u t → DtAt H m v t → SmP H m u v := by
  have at_ : ∀ {m : Nat} {u v x : V}, DtAt H m u (.at x) → DtAt H m v (.at x) → AtP H u v := fun {m u v x} h1 h2 => by
    have e1 : u = x ∧ isAtom x = true := by cases m <;> exact h1
    have e2 : v = x ∧ isAtom x = true := by cases m <;> exact h2
    obtain ⟨rfl, h⟩ := e1
    obtain ⟨rfl, _⟩ := e2
    exact ⟨rfl, .inl h⟩
  intro m
  induction m with
  | zero =>
    intro u v t h1 h2
    cases t with
    | «at» x => exact at_ h1 h2
    | sq kd ts => exact h1.elim
  | succ m ih =>
    intro u v t h1 h2
    cases t with
    | «at» x => exact .inl (at_ h1 h2)
    | sq kd ts =>
      obtain ⟨a, xs, rfl, ha, hl, hp⟩ := h1
      obtain ⟨b, ys, rfl, hb, _, hq⟩ := h2
      have lx := paired_len hp
      refine .inr ⟨a, b, kd, xs, ys, rfl, rfl, ha, hb, by omega, ?_⟩
      clear ha hb lx hl
      have go : ∀ {xs ys : List V} {ts : List DT}, Paired (DtAt H m) xs ts → Paired (DtAt H m) ys ts → Paired (SmP H m) xs ys := fun {xs ys ts} h => by
        induction h generalizing ys with
        | nil => intro hq; cases hq; exact .nil
        | cons r _ ih2 =>
          intro hq
          cases hq with
          | cons r' hq => exact .cons (ih r r') (ih2 hq)
      exact go hp hq
theorem map_ref_get {xs : List Addr} {j : Nat} {y : V} (h : (xs.map V.ref)[j]? = some y) : ∃ x, xs[j]? = some x ∧ y = .ref x := by
  rw [List.getElem?_map] at h
  cases e : xs[j]? with
  | none => rw [e] at h; cases h
  | some x => rw [e] at h; exact ⟨x, rfl, (Option.some.inj h).symm⟩
section
variable {P : PySem.Program} {w : World} {K : PySem.W.Frag} {mg : Str → Option Value} {base : Heap}
abbrev sLaw : Stmt := topS 53
theorem scLaw : FnScope ["_law_script", "_law_turn", "_law_source_here", "_law_library_here", "_law_made", "_law_spots_here", "_law_some_here", "_law_passed", "_law_spot", "_law_kept", "_law_sets", "_law_wrong", "_law_k", "_law_at", "_law_found", "_law_due", "_law_time"] ["_law_script"] (defScope sLaw) := ⟨rfl, rfl, rfl, by decide +kernel, rfl, by decide +kernel, by decide +kernel⟩
def spLaw (K : PySem.W.Frag) : Sp := fun vs H Q _ => ∃ (a : Addr) (ns : List Int), vs = [.ref a] ∧ SqL K H a (ns.map V.int) ∧ ∀ H', Q (.bl true) H'
theorem ok_law {f CP CL po pw pe fo fw fe fpl flen : Addr} {mc : Value} {fd fdo fdw fde fdpl fdlen : FuncData} {k : Nat} (F : Fun K "law" "law" sLaw f fd) (B : Bl mg) (zr : mg "repr" = none) (hk : 30 ≤ k) (gLSource : Own P w K mg base 1 "_law_source" ["_law_script", "_law_k"] (spLSource K)) (gLDraw : Own P w K mg base 1 "_law_draw" ["_law_source_here", "_law_many"] spLDraw) (gLPick : Own P w K mg base 2 "_law_pick" ["_law_source_here", "_law_some_here"] spLPick)
    (gLLibrary : Own P w K mg base 8 "_law_library" ["_law_source_here", "_law_bound"] spLLibraryS) (gLPlaces : Own P w K mg base 6 "_law_places" ["_law_library_here"] spLPlaces) (gLSome : Own P w K mg base 2 "_law_some" ["_law_source_here", "_law_things"] spLSome) (gLShuffled : Own P w K mg base 2 "_law_shuffled" ["_law_source_here", "_law_things"] spLShuffled) (gLListed : Own P w K mg base 2 "_law_listed" ["_law_source_here", "_law_place"] spLListed) (gLHanded : Own P w K mg base 2 "_law_handed" ["_law_source_here", "_law_codes"] spLHandedL) (gLOddPlaces : Own P w K mg base 7 "_law_odd_places" ["_law_library_here"] spLOddPlaces) (gLRefused : Own P w K mg base 5 "_law_refused" ["_law_made", "_law_things"] (spLRefused CP)) (gLSame : Own P w K mg base 6 "_law_same" ["_law_found", "_law_due"] (spLSameP 4))
    (gProgram : OwnC P w K mg base 10 "Program" CP ["self", "modules"] (spProgramInit CP)) (hPE : PlainEq K CL) (gLate : mg "Late" = some (.ref CL)) (CR : ClX.CRead K CL mc) (CM_of : ClX.CMet K CL mc "of" po fo) (CM_whole : ClX.CMet K CL mc "whole" pw fw) (CM_empty : ClX.CMet K CL mc "empty" pe fe)
    (FE_of : FnOk P w K mg base CX0 3 fo fdo ["cls", "program", "places"] (spLateOfR CL CP)) (FE_whole : FnOk P w K mg base CX0 3 fw fdw ["cls", "program"] (spLateWhole CL CP)) (FE_empty : FnOk P w K mg base CX0 3 fe fde ["cls", "program"] (spLateEmpty CL)) (bE_of : Binds K fdo ["cls", "program", "places"] []) (bE_whole : Binds K fdw ["cls", "program"] []) (bE_empty : Binds K fde ["cls", "program"] [])
    (gm_places : OwnM P w K mg base 1 CL "places" ["self"] (spLatePlaces CL) fpl fdpl) (mLen : Meth K CL "__len__" flen) (Flen : FnOk P w K mg base CX0 1 flen fdlen ["self"] (spLateLen CL)) (bLen : Binds K fdlen ["self"] []) : FnG P w K mg base (k + 1) f fd ["_law_script"] (spLaw K) := by
  refine Fun.okG F scLaw (fun vs H Q E h => ?_) (fun cdv A outer s H vs Q E hg hr h => ?_)
  · obtain ⟨a, ns, rfl, _⟩ := h
    rfl
  obtain ⟨sa, ns, rfl, hS, q⟩ := h
  have CR_of := CR
  have CR_whole := CR
  have CR_empty := CR
  refine ⟨_, (pss_cons (ps_for PassesOwn.never rfl (pi_range1 (by rfl) B.range (pa_cons (pe_callB (call_max2 rfl) (by rfl) B.max (by decide +kernel) (pa_cons pe_int (pa_cons (pe_callB (call_min2 rfl) (by rfl) B.min (by decide +kernel) (pa_cons pe_int (pa_cons (pe_callB call_len_seq (by rfl) B.len (by decide +kernel) (pa_cons (pv 0) pa_nil)) pa_nil))) pa_nil))) pa_nil)) (pg_name (i := 1) scLaw.nd rfl (by first | exact Or.inl rfl | exact Or.inr rfl)) (pss_cut (ps_set (i := 2) scLaw.nd rfl (by first | exact Or.inl rfl | exact Or.inr rfl) (pe_own gLSource (hr.mono (by omega)) (by rfl) (pa_cons (pv 0) (pa_cons (pv 1) pa_nil))))
      (pss_cons (ps_set (i := 3) scLaw.nd rfl (by first | exact Or.inl rfl | exact Or.inr rfl) (pe_own gLLibrary (hr.mono (by omega)) (by rfl) (pa_cons (pv 2) (pa_cons pe_int pa_nil))))
      (pss_cons (ps_par (i := 4) (j := 5) (by rfl) scLaw.nd rfl rfl (by decide) rfl rfl (pa_cons (pe_new gProgram (hr.mono (by omega)) (by rfl) (pa_cons (pv 3) pa_nil)) (pa_cons (pe_own gLPlaces (hr.mono (by omega)) (by rfl) (pa_cons (pv 3) pa_nil)) pa_nil)) (by rfl))
      (pss_cut (ps_set (i := 6) scLaw.nd rfl (by first | exact Or.inl rfl | exact Or.inr rfl) (pe_own gLSome (hr.mono (by omega)) (by rfl) (pa_cons (pv 2) (pa_cons (pv 5) pa_nil))))
      (pss_cut (ps_setLc (i := 7) (own := [("_law_spot", 8)]) (g := (gName 8)) (tt := tYes) (by rfl) scLaw.nd rfl rfl (sw_true rfl rfl rfl (by decide +kernel)) (pi_list (pe_own gLShuffled (hr.mono (by omega)) (by rfl) (pa_cons (pv 2) (pa_cons (pe_op op_cat (pv 6) (pe_slice sl_list (pv 6) po_none (po_some pe_int))) pa_nil)))) (blkOk_by (own := [("_law_spot", 8)]) (N := ["_law_script", "_law_turn", "_law_source_here", "_law_library_here", "_law_made", "_law_spots_here", "_law_some_here", "_law_passed", "_law_spot", "_law_kept", "_law_sets", "_law_wrong", "_law_k", "_law_at", "_law_found", "_law_due", "_law_time"]) (sc := defScope sLaw) (by decide +kernel)) (fun _ _ _ _ _ => (pg_name (i := 8) scLaw.nd rfl (by first | exact Or.inl rfl | exact Or.inr rfl))) (fun _ _ _ _ _ => pts_nil) (fun _ _ _ _ _ => (pe_own gLListed (hr.mono (by omega)) (by rfl) (pa_cons (pv 2) (pa_cons (pv 8) pa_nil)))))
      (pss_cons (ps_set (i := 9) scLaw.nd rfl (by first | exact Or.inl rfl | exact Or.inr rfl) (pe_callB (cr_reprD hg (hu65 hr)) (by rfl) zr (by decide +kernel) (pa_cons (pv 7) pa_nil)))
      (pss_cut (ps_set (i := 10) scLaw.nd rfl (by first | exact Or.inl rfl | exact Or.inr rfl) (pe_lst (pa_cons (ClX.pe_cmeth (pe_glob (v := .ref CL) (by rfl) gLate rfl) CR_whole CM_whole (FE_whole.raw bE_whole .nil) (hr.mono (by omega)) pass0 (pa_cons (pv 4) pa_nil)) (pa_cons (ClX.pe_cmeth (pe_glob (v := .ref CL) (by rfl) gLate rfl) CR_empty CM_empty (FE_empty.raw bE_empty .nil) (hr.mono (by omega)) pass0 (pa_cons (pv 4) pa_nil)) (pa_cons (ClX.pe_cmeth (pe_glob (v := .ref CL) (by rfl) gLate rfl) CR_of CM_of (FE_of.raw bE_of .nil) (hr.mono (by omega)) pass0 (pa_cons (pv 4) (pa_cons (pe_own gLHanded (hr.mono (by omega)) (by rfl) (pa_cons (pv 2) (pa_cons (pv 7) pa_nil))) pa_nil))) (pa_cons (ClX.pe_cmeth (pe_glob (v := .ref CL) (by rfl) gLate rfl) CR_of CM_of (FE_of.raw bE_of .nil) (hr.mono (by omega)) pass0 (pa_cons (pv 4) (pa_cons (pe_tup pa_nil) pa_nil))) pa_nil))))))
      (pss_cons (ps_expr (pe_bm PySem.F.plainAttrs_list PySem.F.slot_list_append PySem.F.type_list_append mt_append (pv 10) (pa_cons (ClX.pe_cmeth (pe_glob (v := .ref CL) (by rfl) gLate rfl) CR_of CM_of (FE_of.raw bE_of .nil) (hr.mono (by omega)) pass0 (pa_cons (pv 4) (pa_cons (pv 7) pa_nil))) pa_nil)))
      (pss_cons (ps_if (pt_cmpR op_ne (pe_callB (cr_reprD hg (hu65 hr)) (by rfl) zr (by decide +kernel) (pa_cons (pv 7) pa_nil)) (pv 9) (nomark _)) (pss_one (ps_ret pe_bl)) pss_nil)
      (pss_cut (ps_setLc (i := 11) (own := [("_law_k", 12)]) (g := (gName 12)) (tt := tYes) (by rfl) scLaw.nd rfl rfl (sw_true rfl rfl rfl (by decide +kernel)) (pi_range1 (by rfl) B.range (pa_cons pe_int pa_nil)) (blkOk_by (own := [("_law_k", 12)]) (N := ["_law_script", "_law_turn", "_law_source_here", "_law_library_here", "_law_made", "_law_spots_here", "_law_some_here", "_law_passed", "_law_spot", "_law_kept", "_law_sets", "_law_wrong", "_law_k", "_law_at", "_law_found", "_law_due", "_law_time"]) (sc := defScope sLaw) (by decide +kernel)) (fun _ _ _ _ _ => (pg_name (i := 12) scLaw.nd rfl (by first | exact Or.inl rfl | exact Or.inr rfl))) (fun _ _ _ _ _ => pts_nil) (fun _ _ _ _ _ => (pe_own gLPick (hr.mono (by omega)) (by rfl) (pa_cons (pv 2) (pa_cons (pe_own gLOddPlaces (hr.mono (by omega)) (by rfl) (pa_cons (pv 3) pa_nil)) pa_nil)))))
      (pss_cons (ps_set (i := 13) scLaw.nd rfl (by first | exact Or.inl rfl | exact Or.inr rfl) (pe_own gLDraw (hr.mono (by omega)) (by rfl) (pa_cons (pv 2) (pa_cons (pe_op op_add (pe_callB call_len_seq (by rfl) B.len (by decide +kernel) (pa_cons (pv 7) pa_nil)) pe_int) pa_nil))))
      (pss_cons (ps_if (pt_not (pt_val (pe_own gLSame (hr.mono (by omega)) (by rfl) (pa_cons (pe_own gLRefused (hr.mono (by omega)) (by rfl) (pa_cons (pv 4) (pa_cons (pe_op op_cat (pe_op op_cat (pe_op op_cat (pe_slice sl_list (pv 7) po_none (po_some (pv 13))) (pe_slice sl_list (pv 11) po_none (po_some pe_int))) (pe_slice sl_list (pv 7) (po_some (pv 13)) po_none)) (pe_slice sl_list (pv 11) (po_some pe_int) po_none)) pa_nil))) (pa_cons (pe_slice sl_list (pv 11) po_none (po_some pe_int)) pa_nil))))) (pss_one (ps_ret pe_bl)) pss_nil)
      (pss_cons (ps_expr (pe_bm0 PySem.F.plainAttrs_list PySem.F.slot_list_clear PySem.F.type_list_clear mt_clear (pv 7)))
      (pss_cons (ps_for PassesOwn.never rfl (pi_zipQ (by rfl) B.zip (pa_cons (pv 10) (pa_cons (pe_lst (pa_cons (pv 5) (pa_cons (pe_lst pa_nil) (pa_cons (pv 6) (pa_cons (pe_lst pa_nil) (pa_cons (pv 6) pa_nil)))))) pa_nil))) (pg_tup (by rfl) (pgs_cons (pg_name (i := 14) scLaw.nd rfl (by first | exact Or.inl rfl | exact Or.inr rfl)) (pgs_cons (pg_name (i := 15) scLaw.nd rfl (by first | exact Or.inl rfl | exact Or.inr rfl)) pgs_nil))) (pss_one (ps_for PassesOwn.never rfl (pi_range1 (by rfl) B.range (pa_cons pe_int pa_nil)) (pg_name (i := 16) scLaw.nd rfl (by first | exact Or.inl rfl | exact Or.inr rfl)) (pss_cons (ps_if (pt_not (pt_val (pe_own gLSame (hr.mono (by omega)) (by rfl) (pa_cons (pe_lst (pa_cons (pe_meth0 (pv 14) gm_places.c gm_places.m gm_places.F (hr.mono (by omega)) gm_places.b .nil pass0) (pa_cons (pe_callB (call_lenI mLen Flen (hr.mono (by omega)) bLen) (by rfl) B.len (by decide +kernel) (pa_cons (pv 14) pa_nil)) pa_nil))) (pa_cons (pe_lst (pa_cons (pv 15) (pa_cons (pe_callB call_len_seq (by rfl) B.len (by decide +kernel) (pa_cons (pv 15) pa_nil)) pa_nil))) pa_nil))))) (pss_one (ps_ret pe_bl)) pss_nil)
      (pss_one (ps_expr (pe_bm PySem.F.plainAttrs_list PySem.F.slot_list_append PySem.F.type_list_append mt_append (pe_meth0 (pv 14) gm_places.c gm_places.m gm_places.F (hr.mono (by omega)) gm_places.b .nil pass0) (pa_cons (pe_tup (pa_cons pe_str (pa_cons (pe_tup (pa_cons pe_int pa_nil)) pa_nil))) pa_nil))))))))
      (pss_one (ps_if (PW.pt (pw_or (pt_cmpR (op_eqI hPE hr.units) (pe_ix ix_list (pv 10) pe_int (fun _ _ => rfl)) (pe_ix ix_list (pv 10) pe_int (fun _ _ => rfl)) (nomark _)) (pw_or (pt_cmpR (op_eqI hPE hr.units) (pe_ix ix_list (pv 10) pe_int (fun _ _ => rfl)) (pe_ix ix_list (pv 10) pe_int (fun _ _ => rfl)) (nomark _)) (pw_or (pt_not (pt_cmpR (op_eqI hPE hr.units) (pe_ix ix_list (pv 10) pe_int (fun _ _ => rfl)) (pe_ix ix_list (pv 10) pe_int (fun _ _ => rfl)) (nomark _))) (pw_or1 (pt_cmpR (opK (K := K) rNeL0 (op_neL0 hr.units0) rfl) (pe_own gLRefused (hr.mono (by omega)) (by rfl) (pa_cons (pv 4) (pa_cons (pv 5) pa_nil))) (pe_lst pa_nil) (nomark _))))))) (pss_one (ps_ret pe_bl)) pss_nil)))))))))))))))))
      (pss_one (ps_ret pe_bl))), ?_⟩
  have hl : (ns.map V.int).length = ns.length := List.length_map _
  refine ⟨_, rfl, sa, _, rfl, .inl hS, 8, _, rfl, 4, _, rfl, _, rfl, ?_, ?_, ?_⟩
  · split <;> split <;> omega
  · split <;> split <;> omega
  have nle : (if (if (((ns.map V.int).length : Nat) : Int) < 8 then (((ns.map V.int).length : Nat) : Int) else 8) > 4 then (if (((ns.map V.int).length : Nat) : Int) < 8 then (((ns.map V.int).length : Nat) : Int) else 8) else 4) ≤ 8 := by split <;> split <;> omega
  generalize (if (if (((ns.map V.int).length : Nat) : Int) < 8 then (((ns.map V.int).length : Nat) : Int) else 8) > 4 then (if (((ns.map V.int).length : Nat) : Int) < 8 then (((ns.map V.int).length : Nat) : Int) else 8) else 4) = N at *
  refine for_it (walk_range (lo := 0) (n := N.toNat)) (fun i σ H' => Same H H' ∧ ∃ v1 v2 v3 v4 v5 v6 v7 v8 v9 v10 v11 v12 v13 v14 v15 v16, σ = [some (.ref sa), v1, v2, v3, v4, v5, v6, v7, v8, v9, v10, v11, v12, v13, v14, v15, v16])
    ⟨Same.refl H, none, none, none, none, none, none, none, none, none, none, none, none, none, none, none, none, rfl⟩ (fun _ _ _ _ _ => trivial) ?_ ?_
  · rintro i x σ H0 G0 hi ⟨sH, v1, v2, v3, v4, v5, v6, v7, v8, v9, v10, v11, v12, v13, v14, v15, v16, rfl⟩ ⟨rfl, rfl⟩
    refine ⟨fun σ H' => ∃ a, σ = [some (.ref sa), some (.int (0 + i)), some (.ref a), v3, v4, v5, v6, v7, v8, v9, v10, v11, v12, v13, v14, v15, v16] ∧ Same G0 H' ∧ G0 a = none ∧ Src H' a 0, ?_, ?_⟩
    · exact ⟨_, rfl, _, rfl, sa, ns, _, rfl, Same.seq sH hS, by omega, by omega, fun H1 a s1 na sr => ⟨a, rfl, s1, na, sr⟩⟩
    rintro σ H1 ⟨a, rfl, s1, na, sr1⟩
    -- the library
    refine ⟨_, rfl, a, 0, 6, rfl, sr1, by decide, by decide, fun H2 D kvs lib n2 f2 sr2 n20 n21 nD hD dl nms few => ?_⟩
    have s2 : Same G0 H2 := same_fr s1 f2 fun b hb => nn_ne na hb
    have abcW : ∀ z ∈ abcD, isW z = true ∧ z.length ≤ 8 := by decide +kernel
    have lfew : lib.length ≤ 3 := by have := nms.1; rwa [List.length_map] at this
    have ltwo : 2 ≤ lib.length := by have := nms.2.1; rwa [List.length_map] at this
    have lr : LibR lib := ⟨by omega, by omega, dl.nd, fun m hm => (abcW m.1 (nms.2.2 m.1 (List.mem_map.mpr ⟨m, hm, rfl⟩))).1, fun m hm => by have := (dl.o m hm).1; omega, fun m hm => (dl.o m hm).2⟩
    obtain ⟨libS, pS, sS⟩ := sortLib lib
    have ndS : (libS.map (·.1)).Nodup := (pS.map _).nodup_iff.mpr dl.nd
    generalize hsps : spotsL libS = sps
    have lsps : sps.length ≤ 6 := by
      rw [← hsps, (spotsL_perm pS).length_eq]
      omega
    have ndP : sps.Nodup := by
      rw [← hsps]
      refine (spotsL_order sS ndS).imp fun {x y} h e => ?_
      rw [e] at h
      unfold SLt at h
      have := PySem.W.dataLt_self (spotD y)
      rw [this] at h
      cases h
    have okS : ∀ p ∈ sps, p.2.length ≤ 1000 ∧ PyData.strOk p.1 = true := fun p hp => by
      rw [← hsps] at hp
      refine ⟨spots_shortD hp, ?_⟩
      obtain ⟨m, hm, hq⟩ := List.mem_flatMap.mp hp
      obtain ⟨w, hw, e⟩ := List.mem_map.mp hq
      rw [← e]
      exact isW_strOk (abcW m.1 (nms.2.2 m.1 (List.mem_map.mpr ⟨m, pS.mem_iff.mp hm, rfl⟩))).1
    -- the program
    refine ⟨_, rfl, fun pm pdx e1 e2 e3 => prog_inR hD dl.at lr pS sS e1 e2 e3 fun H5 rdm slm pnm => ⟨rfl, ?_⟩⟩
    have s25 : Same H2 H5 := pnm.sm
    have ppm : PlsAt H5 slm sps := by rw [← hsps]; exact pnm.pls
    obtain ⟨dm, hpm⟩ := pnm.at_
    have hD5 := s25 _ _ hD
    have dl5 := dl.to (Keep.fr (Fr.same s25) fun _ k => k)
    refine ⟨_, rfl, D, kvs, lib, _, _, rfl, hD5, dl5.at, by omega, fun e => by rw [e] at ltwo; simp at ltwo, dl.nd, fun m hm => ⟨by have := (dl.o m hm).1; omega, (dl.o m hm).2, by have := (abcW m.1 (nms.2.2 m.1 (List.mem_map.mpr ⟨m, hm, rfl⟩))).2; omega⟩, fun H6 spl es libS2 s6 nspl hspl hes pS2 sS2 => ?_⟩
    have eS := libs_eq pS2 pS sS2 sS dl.nd
    subst eS
    have psp : PlsAt H6 spl sps := by rw [← hsps]; exact spots_pls hspl hes
    have s26 := Same.trans s25 s6
    have sG6 : Same G0 H6 := Same.trans s2 s26
    have sr6 : Src H6 a n2 := sr2.fr (ok := fun _ => True) (Fr.same s26) trivial
    replace ppm := ppm.same s6
    replace hpm := s6 _ _ hpm
    have spa : spl ≠ a := (sr2.fr (ok := fun _ => True) (Fr.same s25) trivial).nn nspl
    have sma : slm ≠ a := sr2.nn pnm.nsl
    obtain ⟨pss, hspl6, hpss⟩ := psp
    obtain ⟨zs6, hz6⟩ := sr6.lst
    have pma : pm ≠ a := ne_of hpm hz6 (by intro z; cases z)
    have okP : PlOk sps := ⟨by omega, okS⟩
    have hD6 := s26 _ _ hD
    have Da : D ≠ a := ne_of hD6 hz6 (by intro z; cases z)
    -- some of them
    refine ⟨_, _, rfl, ?_⟩
    refine ⟨fun σ' H' => ∃ (sl : Addr) (some_ : List Pl) (n' : Int), σ' = [some (.ref sa), some (.int (0 + i)), some (.ref a), some (.ref D), some (.ref pm), some (.ref spl), some (.ref sl), v7, v8, v9, v10, v11, v12, v13, v14, v15, v16] ∧ Fr (· ≠ a) H6 H' ∧ Src H' a n' ∧ 0 ≤ n' ∧ n' ≤ 300 ∧ sl ≠ a ∧ H6 sl = none ∧ PlsAt H' sl some_ ∧ some_.Sublist sps, ?_, ?_⟩
    · refine ⟨_, rfl, _, rfl, a, spl, n2, pss, sps, rfl, sr6, by omega, spa, hspl6, hpss, by omega, fun H7 m so n' f7 sr7 g0 g1 nm hm sub => ?_⟩
      exact ⟨m, so, n', rfl, f7, sr7, by omega, by omega, sr6.nn nm, nm, hm, sub⟩
    rintro σ' H7 ⟨sl, some_, n7, rfl, f7, sr7, n70, n71, sla, nsl, hso, sub⟩
    have spz : ∀ p ∈ sps, isW p.1 = true ∧ p.1.length ≤ 8 ∧ p.2.length ≤ 7 ∧ ∀ x ∈ p.2, 0 ≤ x ∧ x < 24 := fun p hp => by
      rw [← hsps] at hp
      have q : PlcIn libS2 (p.1, p.2) := spots_plc (fun m hm => ⟨by have := (dl.o m (pS.mem_iff.mp hm)).1; omega, (dl.o m (pS.mem_iff.mp hm)).2⟩) hp
      have zz := abcW _ (nms.2.2 _ ((pS.map _).mem_iff.mp q.name))
      exact ⟨zz.1, zz.2, spots_short7 hp, q.step⟩
    -- what is passed
    refine ⟨fun σ' H' => ∃ (Lp : Addr) (vs : List V) (pks : List PK) (n' : Int), σ' = [some (.ref sa), some (.int (0 + i)), some (.ref a), some (.ref D), some (.ref pm), some (.ref spl), some (.ref sl), some (.ref Lp), v8, v9, v10, v11, v12, v13, v14, v15, v16] ∧ Fr (· ≠ a) H7 H' ∧ Src H' a n' ∧ 0 ≤ n' ∧ n' ≤ 400 ∧ H7 Lp = none ∧ H' Lp = some (.lst vs) ∧ Paired (LsAt a Lp H') vs pks ∧ (pks.map (·.1)).Perm (some_ ++ some_.take 2), ?_, ?_⟩
    · obtain ⟨so, hso7, hsop⟩ := hso
      have lso : so.length ≤ 6 := by rw [paired_len hsop]; exact Nat.le_trans sub.length_le lsps
      refine ⟨_, rfl, _, rfl, _, rfl, 2, rfl, sl, _, rfl, SqL.of hso7, fun c nc => ?_⟩
      have s1' : Same H7 (upd H7 c (.lst (cutV (so.map V.ref) none (some 2)))) := Same.new nc
      have hc : (upd H7 c (.lst (cutV (so.map V.ref) none (some 2)))) c = some (.lst ((so.take 2).map V.ref)) := by rw [upd_same, List.map_take]; exact congrArg (fun z => some (HO.lst z)) (cutV_takeD _ 2)
      generalize upd H7 c _ = H8 at *
      have lt2 : (so.take 2).length ≤ 2 := by rw [List.length_take]; omega
      refine ⟨sl, c, _, _, rfl, rfl, s1' _ _ hso7, hc, smallE (by rw [List.length_map, List.length_map]; omega), fun c2 nc2 => ?_⟩
      have s2' : Same H8 (upd H8 c2 (.lst (so.map V.ref ++ (so.take 2).map V.ref))) := Same.new nc2
      have hc2 : (upd H8 c2 (.lst (so.map V.ref ++ (so.take 2).map V.ref))) c2 = some (.lst (so.map V.ref ++ (so.take 2).map V.ref)) := upd_same
      generalize upd H8 c2 _ = H9 at *
      have s12 := Same.trans s1' s2'
      have sr9 := sr7.fr (ok := fun _ => True) (Fr.same s12) trivial
      have c2a : c2 ≠ a := (sr7.fr (ok := fun _ => True) (Fr.same s1') trivial).nn nc2
      have hcat : Paired (fun (v : V) (p : Pl) => ∃ T, v = .ref T ∧ PlAt H9 T p) (so.map V.ref ++ (so.take 2).map V.ref) (some_ ++ some_.take 2) := by
        have go : ∀ {ws : List Addr} {ps : List Pl}, Paired (PlAt H7) ws ps → Paired (fun (v : V) (p : Pl) => ∃ T, v = .ref T ∧ PlAt H9 T p) (ws.map V.ref) ps := fun {ws ps} h => by
          induction h with
          | nil => exact .nil
          | cons r _ ih => exact .cons ⟨_, rfl, r.to fun b xs e => s12 _ _ e⟩ ih
        exact paired_append (go hsop) (go (paired_takeD hsop))
      refine ⟨a, c2, n7, _, rfl, sr9, by omega, c2a, hc2, by rw [List.length_append, List.length_map, List.length_map]; omega, fun HA sh ys nA fA srA g0 g1 nsh hsh perm => ?_⟩
      have ly : ys.length ≤ 8 := by rw [perm.length_eq, List.length_append, List.length_map, List.length_map]; omega
      have lxs' : (so.map V.ref ++ (so.take 2).map V.ref).length ≤ 8 := by rw [← perm.length_eq]; exact ly
      obtain ⟨qs, hq1, hq2⟩ := paired_perm perm hcat
      obtain ⟨zs9, hz9⟩ := sr9.lst
      have hqA : Paired (fun (v : V) (p : Pl) => ∃ T, v = .ref T ∧ PlAt HA T p) ys qs := paired_imp hq2 fun v p ⟨T, e, h⟩ => ⟨T, e, h.kp hz9 fun b o hb e => fA b o hb e⟩
      have f7A : Fr (· ≠ a) H7 HA := (Fr.same s12).trans fA
      have sha : sh ≠ a := sr9.nn nsh
      refine ⟨sh, rfl, ⟨_, SqL.of hsh⟩, fun L nL => ?_⟩
      have La : L ≠ a := srA.nn nL
      have qin : ∀ p ∈ qs, p ∈ sps := fun p hp => by
        rcases List.mem_append.mp (hq1.mem_iff.mp hp) with h | h
        · exact sub.subset h
        · exact sub.subset (List.mem_of_mem_take h)
      refine lc_it walk_list (fun j H' => Fr (· ≠ a) HA H' ∧ ∃ (vs : List V) (pks : List PK) (n' : Int), H' L = some (.lst vs) ∧ Paired (LsAt a L H') vs pks ∧ pks.map (·.1) = qs.take j ∧ Src H' a n' ∧ nA ≤ n' ∧ n' ≤ nA + 2 * j)
        ⟨Fr.new nL, [], [], nA, upd_same, .nil, rfl, srA.new nL, by omega, by omega⟩ (fun j H' _ ⟨f, _⟩ => SqL.of (f _ _ sha hsh)) ?_ ?_
      · rintro j v K1 K2 hj ⟨fK, vs, pks, n', hL, hpk, epk, srK, h0, h1⟩ ⟨rfl, hv⟩
        have hv : ys[j]? = some v := hv
        obtain ⟨p, hp, T, rfl, hT⟩ := paired_get hqA hv
        have hj : j < ys.length := hj
        have pin := qin p (List.mem_of_getElem? hp)
        have zp := spz p pin
        obtain ⟨zsA, hzA⟩ := srA.lst
        have hTK := hT.kp hzA fun b o hb e => fK b o hb e
        have lvs : vs.length ≤ 8 := by
          have h2 := congrArg List.length epk
          rw [List.length_map, List.length_take] at h2
          rw [paired_len hpk]
          omega
        refine ⟨rfl, _, rfl, _, rfl, a, T, n', p, rfl, srK, by omega, hTK, by omega, by omega, fun K3 T' b k1 k2 n'' f3 sr3 m0 m1 hT' hb nT' nbc => ?_⟩
        have hL3 := f3 _ _ La hL
        have T'L : T' ≠ L := fun e => by rw [e, hL] at nT'; cases nT'
        have bL : b ≠ L := nbc _ _ hL
        obtain ⟨zsK, hzK⟩ := srK.lst
        have ba : b ≠ a := nbc _ _ hzK
        have kL : ∀ b o, b ≠ L → K3 b = some o → (upd K3 L (.lst (vs ++ [.ref T']))) b = some o := fun b o h e => by rw [upd_ne h]; exact e
        refine ⟨_, hL3, small (by omega), (fK.trans f3).upN nL, vs ++ [.ref T'], pks ++ [(p, k1, k2)], n'', upd_same, ?_, ?_, sr3.ne La.symm, by omega, by omega⟩
        · exact paired_app ⟨T', b, rfl, srK.nn nT', T'L, ba, bL, kL _ _ T'L hT', kL _ _ bL hb⟩ (paired_imp hpk fun v q h => h.to fun b o h1 h2 e => kL b o h2 (f3 b o h1 e))
        · rw [List.map_append, epk, List.take_add_one, hp]; rfl
      · rintro K1 ⟨fK, vs, pks, n', hL, hpk, epk, srK, h0, h1⟩
        have ely : ys.length = qs.length := paired_len hqA
        rw [ely, List.take_length] at epk
        rw [ely] at h1
        have lq : qs.length ≤ 8 := by rw [← ely]; exact ly
        refine ⟨L, vs, pks, n', rfl, f7A.trans fK, srK, by omega, ?_, f7A.free (srA.nn nL) nL, hL, hpk, by rw [epk]; exact hq1⟩
        omega
    rintro σ' H8 ⟨Lp, vs, pks, n8, rfl, f8, sr8, n80, n81, nLp, hLp, hpk, epk⟩
    have qin : ∀ q ∈ pks, q.1 ∈ some_ := fun q hq => by
      have : q.1 ∈ pks.map (·.1) := List.mem_map.mpr ⟨q, hq, rfl⟩
      rcases List.mem_append.mp (epk.mem_iff.mp this) with h | h
      · exact h
      · exact List.mem_of_mem_take h
    have lpk : pks.length ≤ 8 := by
      have h1 := epk.length_eq
      rw [List.length_map, List.length_append, List.length_take] at h1
      have := sub.length_le
      omega
    have lvs := paired_len hpk
    have tD : okT (.sq true (pks.map pkD)) = true ∧ lnT (.sq true (pks.map pkD)) ≤ 17000 := by
      have m := map_tx (kd := true) (f := pkD) (B := 2000) (l := pks) fun q hq => by
        have z := spz _ (sub.subset (qin q hq))
        exact pk_tx z.1 z.2.2.1 z.2.2.2
      refine ⟨m.1, Nat.le_trans m.2 ?_⟩
      have : pks.length * (2000 + 2) ≤ 8 * 2002 := Nat.mul_le_mul_right _ lpk
      omega
    have hDt : ∀ {H' : Hp} {vs : List V}, H' Lp = some (.lst vs) → Paired (LsAt a Lp H') vs pks → DtAt H' 3 (.ref Lp) (.sq true (pks.map pkD)) := fun {H' vs} h hp => by
      have go : ∀ {vs : List V} {ps : List PK}, Paired (LsAt a Lp H') vs ps → (∀ q ∈ ps, q.1 ∈ some_) → Paired (DtAt H' 2) vs (ps.map pkD) := fun {vs ps} h => by
        induction h with
        | nil => intro _; exact .nil
        | @cons v q vs ps r _ ih =>
          intro hq
          have h7 := (spz _ (sub.subset (hq q (by simp)))).2.2.1
          exact .cons (r.dt (by omega)) (ih fun q' hq' => hq q' (by simp [hq']))
      exact ⟨Lp, vs, rfl, h, by rw [List.length_map]; omega, go hp qin⟩
    have lSz : (17000 : Nat) ≤ sizeLine := by decide
    refine ⟨_, rfl, ?_⟩
    dsimp only [tNil]
    refine reprQ (hDt hLp hpk) (by decide) tD.1 (Nat.le_trans tD.2 lSz) ?_
    have f68 : Fr (· ≠ a) H6 H8 := f7.trans f8
    have hpm8 := f68 _ _ pma hpm
    have ppm8 := ppm.kp sma hz6 fun b o h e => f68 b o h e
    have psp8 : PlsAt H8 spl sps := ⟨pss, f68 _ _ spa hspl6, paired_imp hpss fun _ _ q => q.kp hz6 fun b o h e => f68 b o h e⟩
    obtain ⟨zs7, hz7⟩ := sr7.lst
    have hso8 := hso.kp sla hz7 fun b o h e => f8 b o h e
    have Lpa : Lp ≠ a := sr7.nn nLp
    have slLp : sl ≠ Lp := fun e => by
      obtain ⟨_, h, _⟩ := hso
      rw [e, nLp] at h; cases h
    have splLp : spl ≠ Lp := fun e => by
      have := f7 _ _ spa hspl6
      rw [e, nLp] at this; cases this
    have slmLp : slm ≠ Lp := fun e => by
      obtain ⟨_, h, _⟩ := ppm
      have := f7 _ _ sma h
      rw [e, nLp] at this; cases this
    obtain ⟨zs8, hz8⟩ := sr8.lst
    clear hso ppm hpss
    have egv : (pks.map fun q => plTh q.1).map placeT = (pks.map (·.1)).map some := by
      rw [List.map_map, List.map_map]
      exact List.map_congr_left fun q _ => placeT_plTh q.1
    have ingv : ∀ p ∈ pks.map (·.1), p ∈ sps := fun p hp => by
      obtain ⟨q, hq, rfl⟩ := List.mem_map.mp hp
      exact sub.subset (qin q hq)
    have flt : (sps.filter fun p => decide (p ∈ pks.map (·.1))) = some_ := filter_subP sub ndP fun p => by
      rw [decide_eq_true_eq, epk.mem_iff, List.mem_append]
      exact ⟨fun h => h.elim id fun h => List.mem_of_mem_take h, .inl⟩
    have fltN : (sps.filter fun p => decide (p ∈ ([] : List Pl))) = [] := by simp
    have okts : ∀ t ∈ pks.map (fun q => plTh q.1), OkT t := fun t ht => by
      obtain ⟨q, hq, rfl⟩ := List.mem_map.mp ht
      intro p e
      rw [placeT_plTh] at e
      cases e
      have z := spz _ (sub.subset (qin q hq))
      exact ⟨isW_strOk z.1, by omega⟩
    have phs : ∀ {H' : Hp} {vs : List V}, Paired (LsAt a Lp H') vs pks → Paired (PhAt H' 3) vs (pks.map fun q => plTh q.1) := fun {H' vs} hp => by
      have go : ∀ {vs : List V} {ps : List PK}, Paired (LsAt a Lp H') vs ps → (∀ q ∈ ps, q.1 ∈ some_) → Paired (PhAt H' 3) vs (ps.map fun q => plTh q.1) := fun {vs ps} h => by
        induction h with
        | nil => intro _; exact .nil
        | @cons v q vs ps r _ ih =>
          intro hq
          have z := spz _ (sub.subset (hq q (by simp)))
          exact .cons (r.ph (by omega) (by omega)).up (ih fun q' hq' => hq q' (by simp [hq']))
      exact go hp qin
    have ofIn : ∀ {H' : Hp} {t : Addr} {kd : Bool} {vs : List V}, Fr (· ≠ a) H8 H' → H' t = some (mkO kd vs) → Paired (LsAt a Lp H') vs pks → OfIn CP H' pm t kd vs (pks.map fun q => plTh q.1) sps := fun {H' t kd vs} f ht hp =>
      ⟨⟨dm, slm, .ref rdm, f _ _ (ne_of hpm8 hz8 (by intro z; cases z)) hpm8, ppm8.kp sma hz8 fun b o h e => f b o h e⟩, ht, ⟨3, phs hp⟩, by rw [List.length_map]; omega, okts, okP⟩
    -- the late sets
    refine ⟨fun σ' H' => ∃ (S x1 x2 x3 x4 : Addr) (n' : Int), σ' = [some (.ref sa), some (.int (0 + i)), some (.ref a), some (.ref D), some (.ref pm), some (.ref spl), some (.ref sl), some (.ref Lp), v8, some (.str (txD (.sq true (pks.map pkD)))), some (.ref S), v11, v12, v13, v14, v15, v16] ∧ Fr (· ≠ a) H8 H' ∧ Src H' a n' ∧ 0 ≤ n' ∧ n' ≤ 500 ∧ S ≠ a ∧ S ≠ Lp ∧ H8 S = none ∧ H' S = some (.lst [.ref x1, .ref x2, .ref x3, .ref x4]) ∧ x2 ≠ x4 ∧ Paired (fun x pls => ∃ l, LtAt H' CL x pm l ∧ l ≠ a ∧ l ≠ Lp ∧ l ≠ S ∧ PlsAt H' l pls) [x1, x2, x3, x4] [sps, [], some_, []], ?_, ?_⟩
    · obtain ⟨psl, hslm, hpsl⟩ := ppm8
      refine ⟨rfl, _, rfl, pm, dm, slm, .ref rdm, _, rfl, hpm8, hslm, fun K1 x1 d1 l1 s1' hx1 hl1 nx1 nl1 => ?_⟩
      have P1 : PlsAt K1 l1 sps := ⟨psl, hl1, paired_imp hpsl fun _ _ q => q.to fun b xs e => s1' _ _ e⟩
      refine ⟨rfl, _, rfl, .ref pm, rfl, fun K2 x2 d2 l2 s2' hx2 hl2 nx2 nl2 => ?_⟩
      have s8K2 := Same.trans s1' s2'
      refine ⟨rfl, _, rfl, _, rfl, _, rfl, a, Lp, n8, vs, rfl, sr8.fr (ok := fun _ => True) (Fr.same s8K2) trivial, by omega, Lpa, s8K2 _ _ hLp, fun K3 t kd n3 f3 sr3 g0 g1 nt ht => ?_⟩
      have f83 : Fr (· ≠ a) H8 K3 := (Fr.same s8K2).trans f3
      have hpk3 := paired_imp hpk fun v q h => LsAt.to h fun b o h1 _ e => f83 b o h1 e
      refine ⟨pm, t, kd, vs, _, sps, _, rfl, ofIn f83 ht hpk3, egv, ingv, fun K4 x3 d3 l3 s4' hx3 hl3 nx3 nl3 => ?_⟩
      rw [flt] at hl3
      refine ⟨rfl, _, rfl, Nat.zero_le _, fun t0 nt0 => ?_⟩
      have s5' : Same K4 (upd K4 t0 (.tup [])) := Same.new nt0
      have h5' : (upd K4 t0 (.tup [])) t0 = some (.tup []) := upd_same
      generalize upd K4 t0 _ = K5 at *
      have s35 := Same.trans s4' s5'
      have f85 : Fr (· ≠ a) H8 K5 := f83.trans (Fr.same s35)
      refine ⟨pm, t0, false, [], [], sps, [], rfl, ⟨⟨dm, slm, .ref rdm, f85 _ _ (ne_of hpm8 hz8 (by intro z; cases z)) hpm8, (PlsAt.kp ⟨psl, hslm, hpsl⟩ sma hz8 fun b o h e => f85 b o h e)⟩, h5', ⟨0, .nil⟩, by simp, by simp, okP⟩, rfl, by simp, fun K6 x4 d4 l4 s6' hx4 hl4 nx4 nl4 => ⟨(by show 4 ≤ sizeLine; decide), fun S nS => ?_⟩⟩
      rw [fltN] at hl4
      have s36 := Same.trans s35 s6'
      have f86 : Fr (· ≠ a) H8 K6 := f83.trans (Fr.same s36)
      have sS : Same K6 (upd K6 S (.lst [.ref x1, .ref x2, .ref x3, .ref x4])) := Same.new nS
      have sr8' := fun {H' : Hp} (s : Same H8 H') => sr8.fr (ok := fun _ => True) (Fr.same s) trivial
      have sr3S := sr3.fr (ok := fun _ => True) (Fr.same (Same.trans s36 sS)) trivial
      have f1 : Fr (· ≠ a) K1 K6 := ((Fr.same s2').trans f3).trans (Fr.same s36)
      have f2 : Fr (· ≠ a) K2 K6 := f3.trans (Fr.same s36)
      have z1 : l1 ≠ a := sr8.nn nl1
      have z2 : l2 ≠ a := (sr8' s1').nn nl2
      have z3 : l3 ≠ a := sr3.nn nl3
      have z4 : l4 ≠ a := (sr3.fr (ok := fun _ => True) (Fr.same s35) trivial).nn nl4
      obtain ⟨zsA, hzA⟩ := (sr8' s1').lst
      obtain ⟨zsB, hzB⟩ := (sr8' s8K2).lst
      have L8 : ∀ {H' : Hp} {y : Addr}, (∀ b o, b ≠ a → H8 b = some o → H' b = some o) → H' y = none → y ≠ Lp := fun {H' y} f hn e => by
        have := f Lp _ Lpa hLp
        rw [e, this] at hn; cases hn
      have nS1 : ∀ {y : Addr} {o : HO}, K6 y = some o → y ≠ S := fun {y o} h e => by rw [e, nS] at h; cases h
      have hl1' := (P1.kp z1 hzA fun b o h e => f1 b o h e)
      have hl2' : PlsAt K6 l2 [] := ⟨[], f2 _ _ z2 hl2, .nil⟩
      have hl3' := hl3.same (Same.trans s5' s6')
      have lS : ∀ {l : Addr} {pls : List Pl}, PlsAt K6 l pls → l ≠ S := fun {l pls} ⟨_, h, _⟩ => nS1 h
      have x24 : x2 ≠ x4 := fun e => by
        have h2 := f3 _ _ (ne_of hx2 hzB (by intro z; cases z)) hx2
        have := s35 _ _ h2
        rw [e, nx4] at this; cases this
      refine ⟨S, x1, x2, x3, x4, n3, rfl, f86.trans (Fr.same sS), sr3S, by omega, by omega, (sr3.fr (ok := fun _ => True) (Fr.same s36) trivial).nn nS, L8 f86 nS, f86.free ((sr3.fr (ok := fun _ => True) (Fr.same s36) trivial).nn nS) nS, upd_same, x24, ?_⟩
      exact .cons ⟨l1, (LtAt.kp ⟨d1, hx1⟩ hzA fun b o h e => f1 b o h e).same sS, z1, L8 (fun b o _ e => e) nl1, lS hl1', hl1'.same sS⟩ (.cons ⟨l2, (LtAt.kp ⟨d2, hx2⟩ hzB fun b o h e => f2 b o h e).same sS, z2, L8 (fun b o _ e => s1' b o e) nl2, lS hl2', hl2'.same sS⟩ (.cons ⟨l3, (LtAt.same ⟨d3, hx3⟩ (Same.trans s5' s6')).same sS, z3, L8 f83 nl3, lS hl3', hl3'.same sS⟩ (.cons ⟨l4, LtAt.same ⟨d4, hx4⟩ sS, z4, L8 f85 nl4, lS hl4, hl4.same sS⟩ .nil)))
    rintro σ' H9 ⟨S, x1, x2, x3, x4, n9, rfl, f9, sr9, n90, n91, Sa, SLp, nS8, hS9, n24, px⟩
    have hLp9 := f9 _ _ Lpa hLp
    have hpk9 := paired_imp hpk fun v q h => LsAt.to h fun b o h1 _ e => f9 b o h1 e
    have two8 : (2 : Nat) ≤ sizeLine := by decide
    refine ⟨_, rfl, .inl ⟨rfl, _, SqL.of hS9⟩, rfl, _, rfl, _, rfl, pm, Lp, true, vs, _, sps, _, rfl, ofIn f9 hLp9 hpk9, egv, ingv, fun HA x5 d5 l5 sA hx5 hl5 nx5 nl5 => ⟨S, _, .ref x5, rfl, rfl, sA _ _ hS9, (by show 4 < sizeLine; decide), ?_⟩⟩
    rw [flt] at hl5
    have hSA := sA _ _ hS9
    have kS : ∀ b o, b ≠ S → HA b = some o → (upd HA S (.lst ([V.ref x1, V.ref x2, V.ref x3, V.ref x4] ++ [V.ref x5]))) b = some o := fun b o h e => by rw [upd_ne h]; exact e
    have hSB : (upd HA S (.lst ([V.ref x1, V.ref x2, V.ref x3, V.ref x4] ++ [V.ref x5]))) S = some (.lst [V.ref x1, V.ref x2, V.ref x3, V.ref x4, V.ref x5]) := upd_same
    have l5a : l5 ≠ a := sr9.nn nl5
    have l5L : l5 ≠ Lp := fun e => by rw [e, hLp9] at nl5; cases nl5
    have l5S : l5 ≠ S := fun e => by rw [e, hS9] at nl5; cases nl5
    have pxB : Paired (fun x pls => ∃ l, LtAt (upd HA S (.lst ([V.ref x1, V.ref x2, V.ref x3, V.ref x4] ++ [V.ref x5]))) CL x pm l ∧ l ≠ a ∧ l ≠ Lp ∧ PlsAt (upd HA S (.lst ([V.ref x1, V.ref x2, V.ref x3, V.ref x4] ++ [V.ref x5]))) l pls) [x1, x2, x3, x4, x5] [sps, [], some_, [], some_] := by
      have h4 := paired_imp px fun x pls ⟨l, h1, h2, h3, h4, h5⟩ => (⟨l, (h1.same sA).kp hSA kS, h2, h3, (h5.same sA).kp h4 hSA kS⟩ : ∃ l, LtAt (upd HA S (.lst ([V.ref x1, V.ref x2, V.ref x3, V.ref x4] ++ [V.ref x5]))) CL x pm l ∧ l ≠ a ∧ l ≠ Lp ∧ PlsAt (upd HA S (.lst ([V.ref x1, V.ref x2, V.ref x3, V.ref x4] ++ [V.ref x5]))) l pls)
      exact paired_app (xs := [x1, x2, x3, x4]) (ys := [sps, [], some_, []]) ⟨l5, LtAt.kp ⟨d5, hx5⟩ hSA kS, l5a, l5L, hl5.kp l5S hSA kS⟩ h4
    have x35 : x3 ≠ x5 := fun e => by
      have : ∃ d fs, H9 x3 = some (.ins CL d fs) := by
        cases px with
        | cons _ px => cases px with
          | cons _ px => cases px with
            | cons r _ =>
              obtain ⟨l, ⟨d, h⟩, _⟩ := r
              exact ⟨d, _, h⟩
      obtain ⟨d, fs, h⟩ := this
      rw [e, nx5] at h
      cases h
    have f8B : ∀ b o, b ≠ a → b ≠ S → H8 b = some o → (upd HA S (.lst ([V.ref x1, V.ref x2, V.ref x3, V.ref x4] ++ [V.ref x5]))) b = some o := fun b o h1 h2 e => kS b o h2 (sA b o (f9 b o h1 e))
    have srB : Src (upd HA S (.lst ([V.ref x1, V.ref x2, V.ref x3, V.ref x4] ++ [V.ref x5]))) a n9 := (sr9.fr (ok := fun _ => True) (Fr.same sA) trivial).ne Sa.symm
    have hLpB := kS _ _ SLp.symm (sA _ _ hLp9)
    have hpkB : Paired (LsAt a Lp (upd HA S (.lst ([V.ref x1, V.ref x2, V.ref x3, V.ref x4] ++ [V.ref x5])))) vs pks := paired_imp hpk fun v q h => LsAt.to h fun b o h1 _ e => f8B b o h1 (fun z => by rw [z, nS8] at e; cases e) e
    generalize upd HA S (.lst ([V.ref x1, V.ref x2, V.ref x3, V.ref x4] ++ [V.ref x5])) = HB at *
    -- the text is as it was
    refine ⟨_, rfl, ?_⟩
    dsimp only [tNil]
    refine reprQ (hDt hLpB hpkB) (by decide) tD.1 (Nat.le_trans tD.2 lSz) ⟨_, rfl, rfl, _, rfl, ?_⟩
    rw [decide_eq_true (rfl : V.str (txD (.sq true (pks.map pkD))) = V.str (txD (.sq true (pks.map pkD))))]
    refine iteF ?_
    have D8 : H8 D = some (.dK kvs) := f68 _ _ Da hD6
    have DS : D ≠ S := fun e => by rw [e, nS8] at D8; cases D8
    have hDB := f8B _ _ Da DS D8
    have f6B : ∀ b o, b ≠ a → H6 b = some o → HB b = some o := fun b o h e => by
      have e8 := f68 b o h e
      exact f8B b o h (fun z => by rw [z, nS8] at e8; cases e8) e8
    have dlB : DLb (fun y => y ≠ a) HB kvs lib 13 := dl.to fun x kd xs okx e => ⟨sr1.nn okx.1, f6B _ _ (sr1.nn okx.1) (s26 _ _ e)⟩
    have lkvs : lib.length ≤ 3 := lfew
    -- two odd things
    refine ⟨fun σ' H' => ∃ (W : Addr) (w0 w1 : V) (t0 t1 : Th) (n' : Int), σ' = [some (.ref sa), some (.int (0 + i)), some (.ref a), some (.ref D), some (.ref pm), some (.ref spl), some (.ref sl), some (.ref Lp), v8, some (.str (txD (.sq true (pks.map pkD)))), some (.ref S), some (.ref W), v12, v13, v14, v15, v16] ∧ Fr (· ≠ a) HB H' ∧ Src H' a n' ∧ 0 ≤ n' ∧ n' ≤ 600 ∧ W ≠ a ∧ H' W = some (.lst [w0, w1]) ∧ PhAt (dlX (· = a) H') 3 w0 t0 ∧ PhAt (dlX (· = a) H') 3 w1 t1 ∧ OdT sps t0 ∧ OdT sps t1, ?_, ?_⟩
    · refine ⟨2, rfl, by decide, by decide, fun L nL => ?_⟩
      have La : L ≠ a := srB.nn nL
      refine lc_it (walk_range (lo := 0) (n := (2 : Int).toNat)) (fun j H' => Fr (· ≠ a) HB H' ∧ ∃ (vs : List V) (ts : List Th) (n' : Int), H' L = some (.lst vs) ∧ Paired (PhAt (dlX (fun b => b = a ∨ b = L) H') 3) vs ts ∧ vs.length = j ∧ (∀ t ∈ ts, OdT sps t) ∧ Src H' a n' ∧ 0 ≤ n' ∧ n' ≤ 500 + j)
        ⟨Fr.new nL, [], [], n9, upd_same, .nil, rfl, by simp, srB.new nL, n90, by omega⟩ (fun _ _ _ _ => trivial) ?_ ?_
      · rintro j v K1 K2 hj ⟨fK, ws, ts, n', hL, hw, lw, od, srK, h0, h1⟩ ⟨rfl, rfl⟩
        have hj2 : j < 2 := hj
        refine ⟨rfl, _, rfl, _, rfl, D, kvs, lib, _, rfl, fK _ _ Da hDB, dlB.to (Keep.fr fK fun _ k => k), nms, fun K3 m us ts3 s3 nm hm hph lts l27 hodd => ?_⟩
        have ma : m ≠ a := srK.nn nm
        have lus := paired_len hph
        refine ⟨a, m, us, n', rfl, srK.fr (ok := fun _ => True) (Fr.same s3) trivial, by omega, ma, hm, fun e => by rw [e] at lus; simp at lus; omega, by omega, fun K4 x f4 sr4 hx => ?_⟩
        obtain ⟨jx, hjx⟩ := List.getElem?_of_mem hx
        obtain ⟨tx, htx, hpx⟩ := paired_get hph hjx
        have odx := hodd libS2 pS2 sS2 tx (List.mem_of_getElem? htx)
        rw [hsps] at odx
        have hL4 := f4 _ _ La (s3 _ _ hL)
        obtain ⟨zsK, hzK⟩ := srK.lst
        have hpx2 : PhAt (dlX (fun b => b = a ∨ b = L) K3) 3 x tx := hpx.same (dl_less fun b hb => hb.elim (fun e => ⟨zsK, e ▸ hzK⟩) fun e => ⟨ws, e ▸ hL⟩)
        have go : ∀ {H' : Hp} {y : V} {t : Th}, (∀ b o, b ≠ a → H' b = some o → K4 b = some o) → PhAt (dlX (fun b => b = a ∨ b = L) H') 3 y t → PhAt (dlX (fun b => b = a ∨ b = L) (upd K4 L (.lst (ws ++ [x])))) 3 y t := fun {H' y t} f h => h.same (dl_but fun b o hb e => by rw [upd_ne fun z => hb (.inr z)]; exact f b o (fun z => hb (.inl z)) e)
        refine ⟨_, hL4, small (by omega), ((fK.trans (Fr.same s3)).trans f4).upN nL, ws ++ [x], ts ++ [tx], n' + 1, upd_same, ?_, by rw [List.length_append, lw]; rfl, ?_, sr4.ne La.symm, by omega, by omega⟩
        · exact paired_app (go (fun b o h e => f4 b o h e) hpx2) (paired_imp hw fun y t h => go (fun b o hb e => f4 b o hb (s3 _ _ e)) h)
        · intro t ht
          rcases List.mem_append.mp ht with ht | ht
          · exact od t ht
          · rw [List.mem_singleton.mp ht]; exact odx
      · rintro K1 ⟨fK, ws, ts, n', hL, hw, lw, od, srK, h0, h1⟩
        have lw2 : ws.length = 2 := lw
        obtain ⟨w0, w1, rfl⟩ : ∃ w0 w1, ws = [w0, w1] := by
          match ws, lw2 with
          | [w0, w1], _ => exact ⟨w0, w1, rfl⟩
        cases hw with
        | cons p0 hw =>
          cases hw with
          | cons p1 hw =>
            cases hw
            have le : Same (dlX (fun b => b = a ∨ b = L) K1) (dlX (· = a) K1) := dl_less fun b hb => .inl hb
            refine ⟨L, w0, w1, _, _, n', rfl, fK, srK, h0, ?_, La, hL, p0.same le, p1.same le, od _ (by simp), od _ (by simp)⟩
            have : n' ≤ 500 + ((2 : Int).toNat : Int) := h1
            have e2 : ((2 : Int).toNat : Int) = 2 := rfl
            omega
    rintro σ' HC ⟨W, w0, w1, t0, t1, nC, rfl, fC, srC, nC0, nC1, Wa, hW, ph0, ph1, od0, od1⟩
    have hLpC := fC _ _ Lpa hLpB
    refine ⟨_, rfl, _, rfl, Lp, vs, rfl, .inl (SqL.of hLpC), _, _, rfl, rfl, a, _, nC, rfl, srC, by omega, by omega, by omega, fun HD at_ fD srD a0 a1 => ?_⟩
    have fBD : Fr (· ≠ a) HB HD := fC.trans fD
    have hLpD := fD _ _ Lpa hLpC
    have hWD := fD _ _ Wa hW
    have hpkD : Paired (LsAt a Lp HD) vs pks := paired_imp hpkB fun v q h => LsAt.to h fun b o h1 _ e => fBD b o h1 e
    have q0 := ph0.same (dl_fr fD)
    have q1' := ph1.same (dl_fr fD)
    obtain ⟨ka, rfl⟩ : ∃ ka : Nat, at_ = (ka : Int) := ⟨at_.toNat, by omega⟩
    have lka : ka ≤ vs.length := by omega
    refine ⟨_, rfl, _, rfl, _, rfl, ka, rfl, Lp, vs, rfl, SqL.of hLpD, fun c1 n1 => ?_⟩
    rw [cutV_takeD]
    have u1 : Same HD (upd HD c1 (.lst (vs.take ka))) := Same.new n1
    have g1 : (upd HD c1 (.lst (vs.take ka))) c1 = some (.lst (vs.take ka)) := upd_same
    generalize upd HD c1 _ = K1 at *
    have cutW1 : cutV [w0, w1] none (some 1) = [w0] := cutV_takeD [w0, w1] 1
    have cutW2 : cutV [w0, w1] (some 1) none = [w1] := cutV_dropD [w0, w1] 1
    refine ⟨_, rfl, 1, rfl, W, _, rfl, SqL.of (u1 _ _ hWD), fun c2 n2' => ?_⟩
    rw [cutW1]
    have u2 : Same K1 (upd K1 c2 (.lst [w0])) := Same.new n2'
    have g2 : (upd K1 c2 (.lst [w0])) c2 = some (.lst [w0]) := upd_same
    generalize upd K1 c2 _ = K2 at *
    have ltk : (vs.take ka).length ≤ 8 := by rw [List.length_take]; omega
    have ldr : (vs.drop ka).length ≤ 8 := by rw [List.length_drop]; omega
    refine ⟨c1, c2, _, _, rfl, rfl, u2 _ _ g1, g2, smallE (by show _ + 1 ≤ _; omega), fun c3 n3 => ?_⟩
    have u3 : Same K2 (upd K2 c3 (.lst (vs.take ka ++ [w0]))) := Same.new n3
    have g3 : (upd K2 c3 (.lst (vs.take ka ++ [w0]))) c3 = some (.lst (vs.take ka ++ [w0])) := upd_same
    generalize upd K2 c3 _ = K3 at *
    have u13 := Same.trans u1 (Same.trans u2 u3)
    refine ⟨_, rfl, _, rfl, ka, rfl, Lp, vs, rfl, SqL.of (u13 _ _ hLpD), fun c4 n4 => ?_⟩
    rw [cutV_dropD]
    have u4 : Same K3 (upd K3 c4 (.lst (vs.drop ka))) := Same.new n4
    have g4 : (upd K3 c4 (.lst (vs.drop ka))) c4 = some (.lst (vs.drop ka)) := upd_same
    generalize upd K3 c4 _ = K4 at *
    refine ⟨c3, c4, _, _, rfl, rfl, u4 _ _ g3, g4, smallE (by rw [List.length_append]; show _ + 1 + _ ≤ _; omega), fun c5 n5 => ?_⟩
    have u5 : Same K4 (upd K4 c5 (.lst (vs.take ka ++ [w0] ++ vs.drop ka))) := Same.new n5
    have g5 : (upd K4 c5 (.lst (vs.take ka ++ [w0] ++ vs.drop ka))) c5 = some (.lst (vs.take ka ++ [w0] ++ vs.drop ka)) := upd_same
    generalize upd K4 c5 _ = K5 at *
    have u15 := Same.trans u13 (Same.trans u4 u5)
    refine ⟨_, rfl, 1, rfl, W, _, rfl, SqL.of (u15 _ _ hWD), fun c6 n6 => ?_⟩
    rw [cutW2]
    have u6 : Same K5 (upd K5 c6 (.lst [w1])) := Same.new n6
    have g6 : (upd K5 c6 (.lst [w1])) c6 = some (.lst [w1]) := upd_same
    generalize upd K5 c6 _ = K6 at *
    refine ⟨c5, c6, _, _, rfl, rfl, u6 _ _ g5, g6, smallE (by rw [List.length_append, List.length_append]; show _ + 1 + _ + 1 ≤ _; omega), fun c7 n7' => ?_⟩
    have u7 : Same K6 (upd K6 c7 (.lst (vs.take ka ++ [w0] ++ vs.drop ka ++ [w1]))) := Same.new n7'
    have g7 : (upd K6 c7 (.lst (vs.take ka ++ [w0] ++ vs.drop ka ++ [w1]))) c7 = some (.lst (vs.take ka ++ [w0] ++ vs.drop ka ++ [w1])) := upd_same
    generalize upd K6 c7 _ = K7 at *
    have u17 := Same.trans u15 (Same.trans u6 u7)
    have fBK : Fr (· ≠ a) HB K7 := fBD.trans (Fr.same u17)
    have hpkK : Paired (LsAt a Lp K7) vs pks := paired_imp hpkD fun v q h => LsAt.to h fun b o _ _ e => u17 b o e
    have pK := phs hpkK
    have q0K : PhAt K7 3 w0 t0 := (q0.same dl_sub).same u17
    have q1K : PhAt K7 3 w1 t1 := (q1'.same dl_sub).same u17
    have allP : Paired (PhAt K7 3) (vs.take ka ++ [w0] ++ vs.drop ka ++ [w1]) ((pks.map fun q => plTh q.1).take ka ++ [t0] ++ (pks.map fun q => plTh q.1).drop ka ++ [t1]) :=
      paired_append (paired_append (paired_append (paired_takeD pK) (.cons q0K .nil)) (paired_dropD pK)) (.cons q1K .nil)
    have ltk2 : ((pks.map fun q => plTh q.1).take ka).length = ka := by rw [List.length_take, List.length_map]; omega
    have ltk3 : (vs.take ka).length = ka := by rw [List.length_take]; omega
    have f8K : Fr (· ≠ a) H8 H8 := Fr.refl
    have ofK : OfIn CP K7 pm c7 true (vs.take ka ++ [w0] ++ vs.drop ka ++ [w1]) ((pks.map fun q => plTh q.1).take ka ++ [t0] ++ (pks.map fun q => plTh q.1).drop ka ++ [t1]) sps := by
      have hpmB := f8B _ _ (ne_of hpm8 hz8 (by intro z; cases z)) (fun e => by rw [e, nS8] at hpm8; cases hpm8) hpm8
      have slS : slm ≠ S := fun e => by
        obtain ⟨_, h, _⟩ := ppm8
        rw [e, nS8] at h; cases h
      have ppmB : PlsAt HB slm sps := by
        obtain ⟨zs, h1, h2⟩ := ppm8
        refine ⟨zs, f8B _ _ sma slS h1, paired_imp h2 fun T p hT => ?_⟩
        obtain ⟨b, h3, h4⟩ := hT
        exact ⟨b, f8B _ _ (ne_of h3 hz8 (by intro z; cases z)) (fun e => by rw [e, nS8] at h3; cases h3) h3, f8B _ _ (ne_of h4 hz8 (by intro z; cases z)) (fun e => by rw [e, nS8] at h4; cases h4) h4⟩
      obtain ⟨zsB, hzB⟩ := srB.lst
      refine ⟨⟨dm, slm, .ref rdm, fBK _ _ (ne_of hpm8 hz8 (by intro z; cases z)) hpmB, ppmB.kp sma hzB fun b o h e => fBK b o h e⟩, g7, ⟨3, allP⟩, ?_, ?_, okP⟩
      · rw [List.length_append, List.length_append, List.length_append, ltk2, List.length_drop, List.length_map]
        show ka + 1 + _ + 1 ≤ 1000
        omega
      · intro t ht
        simp only [List.mem_append, List.mem_singleton] at ht
        rcases ht with ((ht | rfl) | ht) | rfl
        · exact okts t (List.mem_of_mem_take ht)
        · exact od0.ok
        · exact okts t (List.mem_of_mem_drop ht)
        · exact od1.ok
    have bad0 : inT t0 sps = false := by
      unfold inT
      cases e : placeT t0 with
      | none => rfl
      | some p => exact decide_eq_false (od0.no p e)
    refine ⟨pm, c7, true, _, _, sps, rfl, ofK, fun hall => ?_, fun iB v t hx ht hb good KA m sA' hm => ?_⟩
    · have := hall t0 (by simp)
      rw [bad0] at this; cases this
    have gd : ∀ j t', j < ka → ((pks.map fun q => plTh q.1).take ka ++ [t0] ++ (pks.map fun q => plTh q.1).drop ka ++ [t1])[j]? = some t' → inT t' sps = true := fun j t' hj h => by
      rw [List.append_assoc, List.append_assoc, List.getElem?_append_left (by rw [ltk2]; exact hj)] at h
      have hm' := List.mem_of_mem_take (List.mem_of_getElem? h)
      obtain ⟨q, hq, rfl⟩ := List.mem_map.mp hm'
      unfold inT
      rw [placeT_plTh]
      exact decide_eq_true (sub.subset (qin q hq))
    have at0 : ((pks.map fun q => plTh q.1).take ka ++ [t0] ++ (pks.map fun q => plTh q.1).drop ka ++ [t1])[ka]? = some t0 := by
      rw [List.append_assoc, List.append_assoc, List.getElem?_append_right (by rw [ltk2]; exact Nat.le_refl _), ltk2, Nat.sub_self]; rfl
    have av0 : (vs.take ka ++ [w0] ++ vs.drop ka ++ [w1])[ka]? = some w0 := by
      rw [List.append_assoc, List.append_assoc, List.getElem?_append_right (by rw [ltk3]; exact Nat.le_refl _), ltk3, Nat.sub_self]; rfl
    have ei : iB = ka := by
      rcases Nat.lt_trichotomy iB ka with h | h | h
      · rw [gd iB t h ht] at hb; cases hb
      · exact h
      · rw [good ka t0 h at0] at bad0; cases bad0
    subst ei
    have ev : v = w0 := Option.some.inj (hx.symm.trans av0)
    subst ev
    have uA := Same.trans u17 sA'
    refine ⟨_, rfl, 1, rfl, W, _, rfl, SqL.of (uA _ _ hWD), fun c8 n8 => ?_⟩
    have cutW1' : cutV [v, w1] none (some 1) = [v] := cutV_takeD [v, w1] 1
    rw [cutW1']
    have u8 : Same KA (upd KA c8 (.lst [v])) := Same.new n8
    have g8 : (upd KA c8 (.lst [v])) c8 = some (.lst [v]) := upd_same
    generalize upd KA c8 _ = KB at *
    have q0B : PhAt KB 3 v t0 := (q0K.same sA').same u8
    refine ⟨_, _, rfl, .inr ⟨m, c8, true, [v], [v], rfl, rfl, u8 _ _ hm, g8, (by show 1 ≤ 16000000; decide), .cons (ph_same q0B) .nil⟩, fun KC sC => ⟨_, rfl, iteF ?_⟩⟩
    have uC := Same.trans uA (Same.trans u8 sC)
    have fBC : Fr (· ≠ a) HB KC := fBD.trans (Fr.same uC)
    have srKC := srD.fr (ok := fun _ => True) (Fr.same uC) trivial
    have hLpKC := uC _ _ hLpD
    clear gd at0 av0 ofK allP pK q0K q1K q0B hpkK hpkD g1 g2 g3 g4 g5 g6 g7 g8 n1 n2' n3 n4 n5 n6 n7' n8
    refine ⟨_, rfl, .inl ⟨rfl, _, SqL.of hLpKC⟩, Lp, vs, rfl, rfl, hLpKC, ?_⟩
    have kL : ∀ b o, b ≠ Lp → KC b = some o → (upd KC Lp (.lst [])) b = some o := fun b o h e => by rw [upd_ne h]; exact e
    have f8D : ∀ b o, b ≠ a → b ≠ S → b ≠ Lp → H8 b = some o → (upd KC Lp (.lst [])) b = some o := fun b o h1 h2 h3 e => kL b o h3 (fBC b o h1 (f8B b o h1 h2 e))
    have tupN : ∀ {T : Addr} {zs : List V}, H8 T = some (.tup zs) → T ≠ a ∧ T ≠ S ∧ T ≠ Lp := fun {T zs} h => ⟨ne_of h hz8 (by intro z; cases z), (fun e => by rw [e, nS8] at h; cases h), (fun e => by rw [e, hLp] at h; cases h)⟩
    have plsD : ∀ {l : Addr} {pls : List Pl}, l ≠ a → l ≠ Lp → PlsAt H8 l pls → PlsAt (upd KC Lp (.lst [])) l pls := fun {l pls} h1 h2 ⟨zs, h3, h4⟩ => by
      refine ⟨zs, f8D _ _ h1 (fun e => by rw [e, nS8] at h3; cases h3) h2 h3, paired_imp h4 fun T p ⟨b, h5, h6⟩ => ?_⟩
      obtain ⟨a1, a2, a3⟩ := tupN h5
      obtain ⟨b1, b2, b3⟩ := tupN h6
      exact ⟨b, f8D _ _ a1 a2 a3 h5, f8D _ _ b1 b2 b3 h6⟩
    have pspD := plsD spa splLp psp8
    have slD := plsD sla slLp hso8
    obtain ⟨zsB, hzB⟩ := srB.lst
    have pxD : Paired (fun x pls => ∃ l, LtAt (upd KC Lp (.lst [])) CL x pm l ∧ PlsAt (upd KC Lp (.lst [])) l pls) [x1, x2, x3, x4, x5] [sps, [], some_, [], some_] := paired_imp pxB fun x pls ⟨l, h1, h2, h3, h4⟩ => ⟨l, (h1.kp hzB fun b o h e => fBC b o h e).kp hLpKC kL, (h4.kp h2 hzB fun b o h e => fBC b o h e).kp h3 hLpKC kL⟩
    have hSD := kL _ _ SLp (fBC _ _ Sa hSB)
    have srKD := srKC.ne (o := .lst []) Lpa.symm
    have pmS : pm ≠ S := fun e => by rw [e, nS8] at hpm8; cases hpm8
    have pmL : pm ≠ Lp := fun e => by rw [e, hLp] at hpm8; cases hpm8
    have hpmD := f8D _ _ (ne_of hpm8 hz8 (by intro z; cases z)) pmS pmL hpm8
    have ppmD := plsD sma slmLp ppm8
    have f6D0 : ∀ b o, b ≠ a → H6 b = some o → (upd KC Lp (.lst [])) b = some o := fun b o h e => kL b o (fun z => by
      have := f7 _ _ h e
      rw [z, nLp] at this; cases this) (fBC b o h (f6B b o h e))
    generalize upd KC Lp (.lst []) = KD at *
    have sr0 := srKD
    have f6D : Fr (· ≠ a) H6 KD := fun b o h e => f6D0 b o h e
    clear f8D kL plsD hLpKC
    obtain ⟨zsp, hspD, hpsD⟩ := pspD
    obtain ⟨zsl, hslD, hplD⟩ := slD
    -- what the late sets tell
    refine ⟨_, rfl, _, rfl, Nat.zero_le _, fun e1 ne1 => ⟨_, rfl, Nat.zero_le _, fun e2 ne2 => ⟨_, rfl, (by show 5 ≤ sizeLine; decide), fun Z nZ => ?_⟩⟩⟩
    have v1' : Same KD (upd KD e1 (.lst [])) := Same.new ne1
    have he1 : (upd KD e1 (.lst [])) e1 = some (.lst []) := upd_same
    generalize upd KD e1 _ = M1 at *
    have v2' : Same M1 (upd M1 e2 (.lst [])) := Same.new ne2
    have he2 : (upd M1 e2 (.lst [])) e2 = some (.lst []) := upd_same
    generalize upd M1 e2 _ = M2 at *
    have v3' : Same M2 (upd M2 Z (.lst [.ref spl, .ref e1, .ref sl, .ref e2, .ref sl])) := Same.new nZ
    have hZ : (upd M2 Z (.lst [.ref spl, .ref e1, .ref sl, .ref e2, .ref sl])) Z = some (.lst [.ref spl, .ref e1, .ref sl, .ref e2, .ref sl]) := upd_same
    generalize upd M2 Z _ = M3 at *
    have sD3 := Same.trans v1' (Same.trans v2' v3')
    have plA : ∀ {l : Addr} {zs : List Addr} {pls : List Pl}, KD l = some (.lst (zs.map V.ref)) → Paired (PlAt KD) zs pls → PlsAt M3 l pls := fun {l zs pls} h1 h2 => PlsAt.same ⟨zs, h1, h2⟩ sD3
    have hdue : Paired (PlsAt M3) [spl, e1, sl, e2, sl] [sps, [], some_, [], some_] := .cons (plA hspD hpsD) (.cons ⟨[], v3' _ _ (v2' _ _ he1), .nil⟩ (.cons (plA hslD hplD) (.cons ⟨[], v3' _ _ he2, .nil⟩ (.cons (plA hslD hplD) .nil))))
    have hS3 := sD3 _ _ hSD
    have px3 := paired_imp pxD fun x pls ⟨l, h1, h2⟩ => (⟨l, h1.same sD3, h2.same sD3⟩ : ∃ l, LtAt M3 CL x pm l ∧ PlsAt M3 l pls)
    have okDue : ∀ pls ∈ [sps, [], some_, [], some_], PlOk pls := fun pls h => by
      simp only [List.mem_cons, List.mem_nil_iff, or_false] at h
      rcases h with rfl | rfl | rfl | rfl | rfl <;> first | exact okP | exact okP.sub sub | exact okP.sub (List.nil_sublist _)
    refine ⟨S, Z, true, true, [V.ref x1, V.ref x2, V.ref x3, V.ref x4, V.ref x5], [V.ref spl, V.ref e1, V.ref sl, V.ref e2, V.ref sl], rfl, sq_of (kd := true) hS3, sq_of (kd := true) hZ, ?_⟩
    refine for_it (walk_zipQ (n := 5) (by rfl)) (fun j σ H' => Same M3 H' ∧ ∃ v14 v15 v16, σ = [some (.ref sa), some (.int (0 + i)), some (.ref a), some (.ref D), some (.ref pm), some (.ref spl), some (.ref sl), some (.ref Lp), v8, some (.str (txD (.sq true (pks.map pkD)))), some (.ref S), some (.ref W), v12, some (.int iB), v14, v15, v16])
      ⟨Same.refl _, _, _, _, rfl⟩ (fun j σ H' _ ⟨sm, _⟩ => ⟨sq_of (kd := true) (sm _ _ hS3), sq_of (kd := true) (sm _ _ hZ)⟩) ?_ ?_
    · rintro j x σ M4 M5 hj ⟨sm, v14, v15, v16, rfl⟩ ⟨T, y1, y2, rfl, nT, rfl, ey1, ey2⟩
      refine ⟨T, _, rfl, SqT.of upd_same, rfl, _, _, rfl, _, _, rfl, rfl, ?_⟩
      obtain ⟨xA, hxA, rfl⟩ := map_ref_get (xs := [x1, x2, x3, x4, x5]) ey1
      obtain ⟨lA, hlA, rfl⟩ := map_ref_get (xs := [spl, e1, sl, e2, sl]) ey2
      obtain ⟨pls, hpls, lx, hLt, hlx⟩ := paired_get px3 hxA
      obtain ⟨pls', hpls', hdu⟩ := paired_get hdue hlA
      obtain rfl : pls' = pls := Option.some.inj (hpls'.symm.trans hpls)
      have okpl := okDue _ (List.mem_of_getElem? hpls)
      have sT : Same M3 (upd M4 T (.tup [.ref xA, .ref lA])) := Same.trans sm (Same.new nT)
      generalize upd M4 T _ = M5 at *
      refine ⟨2, rfl, by decide, by decide, ?_⟩
      refine for_it (walk_range (lo := 0) (n := (2 : Int).toNat)) (fun j' σ H' => Same M3 H' ∧ ∃ v16, σ = [some (.ref sa), some (.int (0 + i)), some (.ref a), some (.ref D), some (.ref pm), some (.ref spl), some (.ref sl), some (.ref Lp), v8, some (.str (txD (.sq true (pks.map pkD)))), some (.ref S), some (.ref W), v12, some (.int iB), some (.ref xA), some (.ref lA), v16])
        ⟨sT, _, rfl⟩ (fun _ _ _ _ _ => trivial) ?_ ?_
      · rintro j' x' σ M6 M6' hj' ⟨s6', v16', rfl⟩ ⟨rfl, rfl⟩
        obtain ⟨dA, hA⟩ := hLt
        obtain ⟨zx, hzx, hpx⟩ := hlx
        have hA6 := s6' _ _ hA
        refine ⟨_, rfl, xA, dA, _, rfl, hA6, lk_placesL _ _, xA, dA, lx, .ref pm, _, rfl, hA6, s6' _ _ hzx, fun m1 nm1 => ?_⟩
        have w1' : Same M6' (upd M6' m1 (.lst (zx.map V.ref))) := Same.new nm1
        have hm1 : (upd M6' m1 (.lst (zx.map V.ref))) m1 = some (.lst (zx.map V.ref)) := upd_same
        generalize upd M6' m1 _ = M7 at *
        have s7 := Same.trans s6' w1'
        have lpls : pls'.length ≤ 1000 := okpl.1
        refine ⟨_, rfl, xA, dA, _, rfl, w1' _ _ hA6, xA, pm, lx, pls', rfl, ⟨dA, w1' _ _ hA6⟩, PlsAt.same ⟨zx, hzx, hpx⟩ s7, pls'.length, rfl, by omega, two8, fun L1 nL1 => ?_⟩
        have w2' : Same M7 (upd M7 L1 (.lst [.ref m1, .int pls'.length])) := Same.new nL1
        have hL1 : (upd M7 L1 (.lst [.ref m1, .int pls'.length])) L1 = some (.lst [.ref m1, .int pls'.length]) := upd_same
        generalize upd M7 L1 _ = M8 at *
        have s8' := Same.trans s7 w2'
        obtain ⟨zd, hzd, hpd⟩ := hdu
        have el : (zd.map V.ref).length = pls'.length := by rw [List.length_map]; exact paired_len hpd
        refine ⟨_, rfl, _, rfl, lA, _, rfl, .inl (SqL.of (s8' _ _ hzd)), two8, fun L2 nL2 => ?_⟩
        rw [el]
        have w3' : Same M8 (upd M8 L2 (.lst [.ref lA, .int pls'.length])) := Same.new nL2
        have hL2 : (upd M8 L2 (.lst [.ref lA, .int pls'.length])) L2 = some (.lst [.ref lA, .int pls'.length]) := upd_same
        generalize upd M8 L2 _ = M9 at *
        have s9' := Same.trans s8' w3'
        have kp : ∀ {H' : Hp} {zs : List Addr}, Paired (PlAt M3) zs pls' → Same M3 H' → Paired (PlAt H') zs pls' := fun {H' zs} h s => paired_imp h fun _ _ q => q.to fun b xs e => s _ _ e
        have sm9 : SmP M9 3 (.ref m1) (.ref lA) := dt_smP (pls_dt (w3' _ _ (w2' _ _ hm1)) (kp hpx s9') (by omega) (fun p hp => Nat.le_trans (okpl.2 p hp).1 (by decide))) (pls_dt (s9' _ _ hzd) (kp hpd s9') (by omega) (fun p hp => Nat.le_trans (okpl.2 p hp).1 (by decide)))
        refine ⟨_, _, rfl, .inr ⟨L1, L2, true, [.ref m1, .int pls'.length], [.ref lA, .int pls'.length], rfl, rfl, w3' _ _ hL1, hL2, (by show 2 ≤ 16000000; decide), .cons sm9 (.cons (.inl ⟨rfl, .inl rfl⟩) .nil)⟩, fun MA sA' => ⟨_, rfl, iteF ?_⟩⟩
        have s10' := Same.trans s9' sA'
        refine ⟨_, rfl, xA, dA, _, rfl, s10' _ _ hA, lk_placesL _ _, xA, dA, lx, .ref pm, _, rfl, s10' _ _ hA, s10' _ _ hzx, fun m2 nm2 => ?_⟩
        have hm2 : (upd MA m2 (.lst (zx.map V.ref))) m2 = some (.lst (zx.map V.ref)) := upd_same
        have fr2 : Fr (· ≠ m2) MA (upd MA m2 (.lst (zx.map V.ref))) := fun b o h e => by rw [upd_ne h]; exact e
        have w4' : Same MA (upd MA m2 (.lst (zx.map V.ref))) := Same.new nm2
        generalize upd MA m2 _ = MB at *
        refine ⟨.inl ⟨rfl, _, SqL.of hm2⟩, (by show 1 ≤ sizeLine; decide), fun t1' nt1' => ⟨(by show 2 ≤ sizeLine; decide), fun t2' nt2' => ?_⟩⟩
        have w5' := Same.trans (Same.new (o := .tup [.int 0]) nt1') (Same.new (o := .tup [.str "a", .ref t1']) nt2')
        have k1000 : (1000 : Nat) < sizeLine := by decide
        have ezx : (zx.map V.ref).length = pls'.length := by rw [List.length_map]; exact paired_len hpx
        exact ⟨m2, _, .ref t2', rfl, rfl, w5' _ _ hm2, (by rw [ezx]; omega), Same.upN (Same.trans s10' (Same.trans w4' w5')) (Same.free s10' nm2), _, rfl⟩
      · rintro σ M6 ⟨s6', v16', rfl⟩
        exact ⟨s6', _, _, _, rfl⟩
    · rintro σ M4 ⟨sm, v14, v15, v16, rfl⟩
      obtain ⟨d1, d2, d3, d4, d5, f1, f2, f3, f4, f5, k1, k2, k3, k4, k5⟩ : ∃ (d1 d2 d3 d4 d5 : Addr) (f1 f2 f3 f4 f5 : List (Str × V)), M4 x1 = some (.ins CL d1 f1) ∧ M4 x2 = some (.ins CL d2 f2) ∧ M4 x3 = some (.ins CL d3 f3) ∧ M4 x4 = some (.ins CL d4 f4) ∧ M4 x5 = some (.ins CL d5 f5) := by
        have g : ∀ j x, [x1, x2, x3, x4, x5][j]? = some x → ∃ d f, M4 x = some (.ins CL d f) := fun j x e => by
          obtain ⟨pls, _, l, ⟨d, h⟩, _⟩ := paired_get px3 e
          exact ⟨d, _, sm _ _ h⟩
        obtain ⟨d1, f1, k1⟩ := g 0 x1 rfl
        obtain ⟨d2, f2, k2⟩ := g 1 x2 rfl
        obtain ⟨d3, f3, k3⟩ := g 2 x3 rfl
        obtain ⟨d4, f4, k4⟩ := g 3 x4 rfl
        obtain ⟨d5, f5, k5⟩ := g 4 x5 rfl
        exact ⟨d1, d2, d3, d4, d5, f1, f2, f3, f4, f5, k1, k2, k3, k4, k5⟩
      have hS4 := sm _ _ hS3
      refine ⟨_, rfl, S, _, 1, .ref x2, rfl, rfl, SqL.of hS4, rfl, _, rfl, S, _, 3, .ref x4, rfl, rfl, SqL.of hS4, rfl, x2, x4, d2, d4, f2, f4, rfl, rfl, k2, k4, _, rfl, ?_⟩
      rw [decide_eq_false n24]
      refine iteF ⟨_, rfl, S, _, 2, .ref x3, rfl, rfl, SqL.of hS4, rfl, _, rfl, S, _, 4, .ref x5, rfl, rfl, SqL.of hS4, rfl, x3, x5, d3, d5, f3, f5, rfl, rfl, k3, k5, _, rfl, ?_⟩
      rw [decide_eq_false x35]
      refine iteF ⟨_, rfl, S, _, 4, .ref x5, rfl, rfl, SqL.of hS4, rfl, _, rfl, S, _, 4, .ref x5, rfl, rfl, SqL.of hS4, rfl, x5, x5, d5, d5, f5, f5, rfl, rfl, k5, k5, _, rfl, ?_⟩
      rw [decide_eq_true (rfl : x5 = x5)]
      refine iteF ?_
      have sD4 := Same.trans sD3 sm
      have hsp4 := sD4 _ _ hspD
      have phS : Paired (PhAt M4 3) (zsp.map V.ref) (sps.map plTh) := by
        have go : ∀ {zs : List Addr} {ps : List Pl}, Paired (PlAt KD) zs ps → (∀ p ∈ ps, p ∈ sps) → Paired (PhAt M4 3) (zs.map V.ref) (ps.map plTh) := fun {zs ps} h => by
          induction h with
          | nil => intro _; exact .nil
          | @cons T p zs ps r _ ih =>
            intro hq
            have z := spz _ (hq p (by simp))
            obtain ⟨b, h3, h4⟩ := r
            exact .cons (PhAt.up (plTh_at (k1 := false) (k2 := false) (p := p) (sD4 _ _ h3) (sD4 _ _ h4) (by omega) (by omega))) (ih fun q' hq' => hq q' (by simp [hq']))
        exact go hpsD fun p hp => hp
      have ofS : OfIn CP M4 pm spl true (zsp.map V.ref) (sps.map plTh) sps := ⟨⟨dm, slm, .ref rdm, sD4 _ _ hpmD, ppmD.same sD4⟩, hsp4, ⟨3, phS⟩, by rw [List.length_map]; omega, fun t ht => by
        obtain ⟨q, hq, rfl⟩ := List.mem_map.mp ht
        intro p e
        rw [placeT_plTh] at e
        cases e
        have z := spz _ hq
        exact ⟨isW_strOk z.1, by omega⟩, okP⟩
      have allS : ∀ t ∈ sps.map plTh, inT t sps = true := fun t ht => by
        obtain ⟨q, hq, rfl⟩ := List.mem_map.mp ht
        unfold inT
        rw [placeT_plTh]
        exact decide_eq_true hq
      refine ⟨_, rfl, _, rfl, pm, spl, true, _, _, sps, rfl, ofS, fun _ KE m sE hm => ⟨Nat.zero_le _, fun m0 nm0 => ?_⟩, fun iB v t hx ht hb => ?_⟩
      · have sF : Same KE (upd KE m0 (.lst [])) := Same.new nm0
        refine ⟨m, m0, [], rfl, rfl, SqL.of (sF _ _ hm), SqL.of upd_same, _, rfl, iteF ?_⟩
        exact ⟨Same.trans sH (same_fr sG6 (f6D.trans (Fr.same (Same.trans sD4 (Same.trans sE sF)))) fun b hb => nn_ne na hb), _, _, _, _, _, _, _, _, _, _, _, _, _, _, _, _, rfl⟩
      · have := allS t (List.mem_of_getElem? ht)
        rw [hb] at this; cases this
  · rintro σ H0 ⟨sH, v1, v2, v3, v4, v5, v6, v7, v8, v9, v10, v11, v12, v13, v14, v15, v16, rfl⟩
    exact q _
end
end Ft
set_option Elab.async false
set_option linter.all false
set_option maxRecDepth 100000
set_option maxHeartbeats 0
namespace Ft
open PySem L2
def dX (x : Str) (st : Stmt) : He.DefD := ⟨(x, none), x, x, defArgs st, defBody st, defScope st, [], []⟩
def dM (c m q : Str) (st : Stmt) : He.DefD := ⟨(c, some m), m, q, defArgs st, defBody st, defScope st, [], []⟩
def hFn : List He.DefD := [dX "_law_source" sLSource,
  dX "_law_draw" sLDraw,
  dX "_law_pick" sLPick,
  dX "_law_shuffled" sLShuffled,
  dX "_law_handed" sLHanded,
  dX "_law_same" sLSame,
  dX "_law_blocks" sLBlocks,
  dX "_law_spots" sLSpots,
  dX "_law_places" sLPlaces,
  dX "_law_size" sLSize,
  dX "_law_plants" sLPlants,
  dX "_law_some_row" sLSomeRow,
  dX "_law_library" sLLibrary,
  dX "_law_some" sLSome,
  dX "_law_odd_places" sLOddPlaces,
  dX "_law_listed" sLListed,
  dX "_law_refused" sLRefused,
  dX "law" sLaw,
  dX "is_integer" sIsInteger,
  dX "is_word" sIsWord,
  dX "is_field" sIsField,
  dX "is_row" sIsRow,
  dX "blocks_of" sBlocksOf,
  dX "first_wrong" sFirstWrong,
  dX "check_modules" sCheckModules,
  dX "frozen" sFrozen,
  dX "walked" sWalked,
  dX "place_of" sPlaceOf,
  dM "Program" "__init__" "Program.__init__" sProgramInit,
  dM "Late" "__init__" "Late.__init__" sLateInit,
  dM "Late" "places" "Late.places" sLatePlaces,
  dM "Late" "__len__" "Late.__len__" sLateLen,
  dM "BadPlace" "__init__" "BadPlace.__init__" sBadPlaceInit]
def hFa : List He.Fa := [.glo "_law_source",
  .glo "_law_draw",
  .glo "_law_pick",
  .glo "_law_shuffled",
  .glo "_law_handed",
  .glo "_law_same",
  .glo "_law_blocks",
  .glo "_law_spots",
  .glo "_law_places",
  .glo "_law_size",
  .glo "_law_plants",
  .glo "_law_some_row",
  .glo "_law_library",
  .glo "_law_some",
  .glo "_law_odd_places",
  .glo "_law_listed",
  .glo "_law_refused",
  .glo "law",
  .glo "is_integer",
  .glo "is_word",
  .glo "is_field",
  .glo "is_row",
  .glo "blocks_of",
  .glo "first_wrong",
  .glo "check_modules",
  .glo "frozen",
  .glo "walked",
  .glo "place_of",
  .free "int",
  .free "len",
  .free "range",
  .free "isinstance",
  .free "tuple",
  .free "list",
  .free "dict",
  .free "str",
  .free "bool",
  .free "sorted",
  .free "zip",
  .free "enumerate",
  .free "all",
  .free "max",
  .free "min",
  .free "sum",
  .free "any",
  .free "repr",
  .glo "Program",
  .cls "Program",
  .noat "Program" "rows_of",
  .noat "Program" "spots",
  .mkr "Program",
  .glo "Late",
  .cls "Late",
  .noat "Late" "program",
  .noat "Late" "spots",
  .mkr "Late",
  .meth "Late" "places",
  .meth "Late" "__len__",
  .glo "FIELDS",
  .str "LETTERS" letters,
  .glo "BadPlace",
  .noat "BadPlace" "place",
  .exm "BadPlace" "BadPlace" true]
def hTs : List He.Tab := [(fun K => He.ga K "FIELDS", fieldsT.map (·.1))]
def hDefs0 : List Str := ["_law_source", "_law_draw", "_law_pick", "_law_shuffled", "_law_handed", "_law_same", "_law_blocks", "_law_spots", "_law_places", "_law_size", "_law_plants", "_law_some_row"]
def hDefs1 : List Str := ["_law_library", "_law_some", "_law_odd_places", "_law_listed", "_law_refused", "law", "is_integer", "is_word", "is_field", "is_row", "blocks_of", "first_wrong"]
def hDefs2 : List Str := ["check_modules", "frozen", "walked", "place_of"]
def hDefs : List Str := hDefs0 ++ hDefs1 ++ hDefs2
def hCls : List Str := ["Program", "Late", "TouchError", "BadPlace"]
def hMeths0 : List (Str × Str) := [("Program", "__init__"), ("Late", "__init__"), ("Late", "places"), ("Late", "__len__"), ("BadPlace", "__init__"), ("Late", "of"), ("Late", "whole"), ("Late", "empty")]
def hMeths : List (Str × Str) := hMeths0
def nm0 : List Str := ["_wall", "TouchError", "BadProgram", "BadText", "BadWord", "BadPlace", "OtherProgram", "place_of", "Late", "check_programs", "LETTERS", "is_integer", "is_word", "FIGURES", "STEP", "FIELDS", "is_field", "is_row", "blocks_of", "first_wrong", "check_modules", "frozen", "walked", "lines_of", "is_written", "number_of", "read_row", "stands_at", "read_rows", "read_modules"]
def nm1 : List Str := ["Program", "_law_source", "_law_draw", "_law_pick", "_law_shuffled", "_law_handed", "_law_same", "_law_blocks", "_law_spots", "_law_places", "_law_size", "_law_plants", "_law_some_row", "_law_library", "_law_some", "_law_odd_places", "_law_listed", "_law_refused"]
def hNames : List Str := nm0 ++ nm1
def lawIx : Nat := 53
def topM : Nat := 20000
/-- the tuples of the table -/
def strsB : List Str → List Value → Bool
  | [], [] => true
  | z :: zs, .str y _ :: us => decide (y = z) && strsB zs us
  | _, _ => false
theorem strsB_ok : ∀ {zs : List Str} {us : List Value}, strsB zs us = true → Vals (zs.map V.str) us
  | [], [], _ => .nil
  | [], _ :: _, h => by cases h
  | _ :: _, [], h => by cases h
  | z :: zs, u :: us, h => by
    cases u with
    | str y t =>
      unfold strsB at h
      rw [Bool.and_eq_true] at h
      have e : y = z := of_decide_eq_true h.1
      subst e
      exact .cons ⟨t, rfl⟩ (strsB_ok h.2)
    | _ => cases h
def fldB (K : PySem.W.Frag) (p : Str × List Str) : Bool := match PySem.W.nsIn K (He.ga K "FIELDS") p.1 with
  | some (some (.ref a)) => (match K.lookup a with
    | some ⟨.type c, _, .seq its _, _⟩ => decide (c = "tuple") && (decide (its.size ≤ 100) && strsB p.2 its.toList)
    | _ => false)
  | _ => false
theorem fldB_ok {K : PySem.W.Frag} {p : Str × List Str} (h : fldB K p = true) : ∃ tA, PySem.W.nsIn K (He.ga K "FIELDS") p.1 = some (some (.ref tA)) ∧ ∀ H, SqT K H tA (p.2.map V.str) := by
  unfold fldB at h
  split at h
  · rename_i a e
    split at h
    · rename_i c od its n sl q
      rw [Bool.and_eq_true, Bool.and_eq_true] at h
      have ec : c = "tuple" := of_decide_eq_true h.1
      have ez : its.size ≤ 100 := of_decide_eq_true h.2.1
      subst ec
      exact ⟨a, e, fun H => .inr ⟨_, its, n, q, rfl, rfl, Nat.le_of_lt (small (by omega)), strsB_ok h.2.2⟩⟩
    · cases h
  · cases h
theorem no_key {w : World} {K : PySem.W.Frag} {a : Addr} {ks : List Str} (h : He.dicW K a = some (He.keysIn w.params ks)) {z : Str} (hz : z ∉ ks) : PySem.W.nsIn K a z = some none := by
  unfold He.dicW at h
  split at h
  · rename_i c es n sl q
    split at h
    · have h' := Option.some.inj h
      have all : ∀ e ∈ es.toList, ∃ x t, e.key = .str x t ∧ x ∈ ks := by
        have go : ∀ (l : List DictEntry) (ks : List Str), l.map He.keyOf = He.keysIn w.params ks → ∀ e ∈ l, ∃ x t, e.key = .str x t ∧ x ∈ ks := by
          intro l
          induction l with
          | nil => intro ks _ e he; cases he
          | cons d l ih =>
            intro ks h e he
            cases ks with
            | nil => cases h
            | cons k ks =>
              have h2 : He.keyOf d :: l.map He.keyOf = some (k, PyData.keyHash w.params k) :: He.keysIn w.params ks := h
              have h3 := List.cons.inj h2
              rcases List.mem_cons.mp he with e1 | he
              · rw [e1]
                have h4 := h3.1
                unfold He.keyOf at h4
                split at h4
                · rename_i x t qk
                  have h5 := Prod.mk.inj (Option.some.inj h4)
                  exact ⟨x, t, qk, by rw [h5.1]; simp⟩
                · cases h4
              · obtain ⟨x, t, h5, h6⟩ := ih ks h3.2 e he
                exact ⟨x, t, h5, by simp [h6]⟩
        exact go _ _ h'
      unfold PySem.W.nsIn
      rw [q]
      have e1 : es.toList.find? (fun e => e.key.isStr z) = none := by
        rw [List.find?_eq_none]
        intro e he
        obtain ⟨x, t, hk, hx⟩ := all e he
        rw [hk]
        intro hs
        have : x = z := by
          have hs' : (x == z) = true := hs
          exact beq_iff_eq.mp hs'
        exact hz (by rw [← this]; exact hx)
      have e2 : es.toList.any (fun e => e.refKey) = false := by
        rw [List.any_eq_false]
        intro e he
        obtain ⟨x, t, hk, hx⟩ := all e he
        unfold DictEntry.refKey
        rw [hk]
        exact Bool.false_ne_true
      show (match es.toList.find? (fun e => e.key.isStr z) with
        | some e => some (some e.val)
        | none => if es.toList.any (fun e => e.refKey) then none else some none) = some none
      rw [e1]
      show (if es.toList.any (fun e => e.refKey) then none else some none) = some none
      rw [e2]
      rfl
    · cases h
  · cases h
def oexB (K : PySem.W.Frag) (C : Addr) : Bool := (match K.lookup C with
  | some ⟨.type "type", _, .cls cd, sl⟩ => (match cd.mro, sl.toList with
    | .ref C' :: bm, [_, _, _, _, some (.builtin n), _] => C' == C && n == "ValueError.__new__" && !cd.hasDel && cd.hasDict && PySem.HandSPX.refsVE bm
    | _, _ => false)
  | _ => false) && (He.eqO (PySem.W.findIn K (.ref C) "__setattr__") (some (some (.builtin "object.__setattr__"))) && (decide (PySem.W.subIn K (.ref C) (.type "BaseException") = some true) && (decide (PySem.W.typeIn K (.ref C) = some (.type "type")) && PySem.W.keepIn K (.ref C))))
theorem oexB_ok {K : PySem.W.Frag} {C : Addr} (h : oexB K C = true) : OexC K C := by
  obtain ⟨h1, h⟩ := Bool.and_eq_true_iff.mp h
  obtain ⟨h2, h⟩ := Bool.and_eq_true_iff.mp h
  obtain ⟨h3, h⟩ := Bool.and_eq_true_iff.mp h
  obtain ⟨h4, h5⟩ := Bool.and_eq_true_iff.mp h
  refine ⟨?_, He.eqO_ok h2, of_decide_eq_true h3, of_decide_eq_true h4, h5⟩
  split at h1
  · rename_i dd cd sl ho
    split at h1
    · rename_i C' bm k0 k1 k2 k3 n k5 hm hs
      simp only [Bool.and_eq_true, beq_iff_eq, Bool.not_eq_true'] at h1
      obtain ⟨⟨⟨⟨rfl, rfl⟩, hdel⟩, hdi⟩, hr⟩ := h1
      obtain ⟨nm, bs, mro, ns, qn, hd, sn, sub, ab, col, del⟩ := cd
      dsimp only at hm hdel hdi
      subst hm hdel hdi
      have hsl : sl = #[k0, k1, k2, k3, some (.builtin "ValueError.__new__"), k5] := by
        obtain ⟨l⟩ := sl
        simp only at hs
        rw [hs]
      subst hsl
      exact ⟨nm, qn, ns, bs, bm, sn, sub, ab, col, dd, k0, k1, k2, k3, k5, ho, hr⟩
    · cases h1
  · cases h1
def eqpB (K : PySem.W.Frag) (C : Addr) : Bool := He.eqO (PySem.W.findIn K (.ref C) "__eq__") (some (some (.builtin "object.__eq__"))) && (He.eqO (PySem.W.findIn K (.ref C) "__ne__") (some (some (.builtin "object.__ne__"))) && decide (PySem.W.subIn K (.ref C) (.type "object") = some true))
theorem eqpB_ok {K : PySem.W.Frag} {C : Addr} (h : eqpB K C = true) : PlainEq K C := by
  obtain ⟨h1, h⟩ := Bool.and_eq_true_iff.mp h
  obtain ⟨h2, h3⟩ := Bool.and_eq_true_iff.mp h
  exact ⟨He.eqO_ok h1, He.eqO_ok h2, of_decide_eq_true h3⟩
def errB (K : PySem.W.Frag) (x : Str) : Bool := oexB K (He.ga K x) && (xfB K (He.ga K x) && (He.eqO (PySem.W.findIn K (.ref (He.ga K x)) "__init__") (some (some (.ref (He.ma K (He.ga K x) "__init__")))) && decide (PySem.W.typeIn K (.ref (He.ma K (He.ga K x) "__init__")) = some (.type "function"))))
theorem errB_ok {K : PySem.W.Frag} {x : Str} (h : errB K x = true) : OexC K (He.ga K x) ∧ XfC K (He.ga K x) ∧ PySem.W.findIn K (.ref (He.ga K x)) "__init__" = some (some (.ref (He.ma K (He.ga K x) "__init__"))) ∧ PySem.W.typeIn K (.ref (He.ma K (He.ga K x) "__init__")) = some (.type "function") := by
  obtain ⟨h1, h⟩ := Bool.and_eq_true_iff.mp h
  obtain ⟨h2, h⟩ := Bool.and_eq_true_iff.mp h
  obtain ⟨h3, h4⟩ := Bool.and_eq_true_iff.mp h
  exact ⟨oexB_ok h1, xfB_ok h2, He.eqO_ok h3, of_decide_eq_true h4⟩
def hEx (K : PySem.W.Frag) : Bool := fieldsT.all (fldB K) && ((eqpB K (He.ga K "Late")) && ((PySem.W.readsIn K (He.ga K "Late") (.type "type")) && ((He5.wrapB K (He.ga K "Late") "classmethod" "classmethod.__get__" "of" && PySem.W.fnIn K (He5.wf K (He.ga K "Late") "classmethod" "of")) && ((He5.wrapB K (He.ga K "Late") "classmethod" "classmethod.__get__" "whole" && PySem.W.fnIn K (He5.wf K (He.ga K "Late") "classmethod" "whole")) && ((He5.wrapB K (He.ga K "Late") "classmethod" "classmethod.__get__" "empty" && PySem.W.fnIn K (He5.wf K (He.ga K "Late") "classmethod" "empty")) && ((errB K "BadPlace") && true))))))
def hA : List He5.DefA := [⟨fun K => He5.wf K (He.ga K "Late") "classmethod" "of", "of", "Late.of", defArgs sLateOf, defBody sLateOf, defScope sLateOf, [], []⟩, ⟨fun K => He5.wf K (He.ga K "Late") "classmethod" "whole", "whole", "Late.whole", defArgs sLateWhole, defBody sLateWhole, defScope sLateWhole, [], []⟩, ⟨fun K => He5.wf K (He.ga K "Late") "classmethod" "empty", "empty", "Late.empty", defArgs sLateEmpty, defBody sLateEmpty, defScope sLateEmpty, [], []⟩]
theorem cread_ok {K : PySem.W.Frag} {C : Addr} (h : PySem.W.readsIn K C (.type "type") = true) : ClX.CRead K C (.type "type") := by
  refine ⟨h, ?_⟩
  unfold PySem.W.readsIn at h
  obtain ⟨h, _⟩ := Bool.and_eq_true_iff.mp h
  obtain ⟨h, _⟩ := Bool.and_eq_true_iff.mp h
  obtain ⟨h, h3⟩ := Bool.and_eq_true_iff.mp h
  obtain ⟨_, h2⟩ := Bool.and_eq_true_iff.mp h
  unfold PySem.W.specialIn
  rw [beq_iff_eq.mp h2, Option.bind_some]
  exact beq_iff_eq.mp h3
abbrev AlY : Type := He.AlT × (Bool × List He.FnW)
def obsK (K : PySem.W.Frag) : AlY := (He.obsT hFa hFn hTs K, (hEx K && hA.all fun d => d.ok K, hA.map fun d => He5.fnA K (d.at_ K)))
def valY (w : World) : AlY := (He.valT hFn hTs w, (true, hA.map He5.DefA.val))
def nsA (g : Addr → Option Obj) (C : Addr) : Addr := match g C with
  | some ⟨_, _, .cls cd, _⟩ => cd.ns
  | _ => 0
def fnRefs (g : Addr → Option Obj) (a : Addr) : List Addr := match g a with
  | some ⟨_, _, .func fd, _⟩ => He.refV fd.code ++ He.refV fd.defaults
  | _ => []
def tabRefs (g : Addr → Option Obj) (a : Addr) : List Addr := match g a with
  | some o => He.refsD o
  | none => []
def cmF (g : Addr → Option Obj) (p : Addr) : List Addr := match PySem.W.recIn (He.frG g [p]) p "classmethod" with
  | some (.ref f :: _) => [f]
  | _ => []
def as0 : List Addr := [mainGlobals, cStatics]
def asC (g : Addr → Option Obj) (K : PySem.W.Frag) : List Addr := hCls.map (He.ga K) ++ hCls.map fun c => nsA g (He.ga K c)
def asM (K : PySem.W.Frag) : List Addr := hMeths.map fun p => He.ma K (He.ga K p.1) p.2
def asF (K : PySem.W.Frag) : List Addr := hDefs.map (He.ga K)
def asAll (g : Addr → Option Obj) (cs fs ms : List Addr) (tb : List Addr) (em : List Addr) : List Addr := as0 ++ cs ++ fs ++ ms ++ tb ++ em ++ fs.flatMap (fnRefs g) ++ ms.flatMap (fnRefs g) ++ em.flatMap (fnRefs g) ++ tb.flatMap (tabRefs g)
def as2 (g : Addr → Option Obj) (K0 K1 : PySem.W.Frag) : List Addr := asAll g (asC g K0) (asF K0) (asM K1) [He.ga K0 "FIELDS"] (cmF g (He.ma K1 (He.ga K1 "Late") "of") ++ cmF g (He.ma K1 (He.ga K1 "Late") "whole") ++ cmF g (He.ma K1 (He.ga K1 "Late") "empty"))
def asY (g : Addr → Option Obj) : List Addr := as2 g (He.frG g as0) (He.frG g (as0 ++ asC g (He.frG g as0)))
def obsY (g : Addr → Option Obj) : AlY := obsK (He.frG g (asY g))
abbrev hHk : PySem.W.Hook where
  α := AlY
  obs := fun s => obsY s.heap.get?
  val := fun w => valY w
  says := fun w h => ∃ K : PySem.W.Frag, K.In h ∧ obsK K = valY w
  of := fun _ _ e => ⟨_, He.frG_in, e⟩
  keeps := fun _ _ _ ⟨K, hK, c⟩ k => ⟨K, PySem.W.Frag.In.keeps hK k, c⟩
abbrev hR : PySem.W.OpenRow := PySem.W.OpenLaw.row PySem.Challenge.rw_firsttouch_k13_late_sets_made
def hOb (s : PySem.W.SharedT) : AlY := obsY (HandSHeadRun.getT s)
theorem hOb_eq (s : PySem.W.SharedT) : hOb s = hHk.obs s.abs := by
  have e : HandSHeadRun.getT s = s.abs.heap.get? := funext (HandSHeadRun.getT_eq s)
  show obsY (HandSHeadRun.getT s) = obsY s.abs.heap.get?
  rw [e]
abbrev runP (w : World) : Prop := HandSHeadRun.RunEq hR (PySem.W.view hR.prog [lawIx]) hHk hOb topM hNames w
theorem hRunF (w : World) : runP (w.withFollow "special-get-raises" false) := by intro os; kernel_rfl
theorem hRunT (w : World) : runP (w.withFollow "special-get-raises" true) := by intro os; kernel_rfl
theorem hRun (w : World) : HandSHeadRun.RunEq hR (PySem.W.view hR.prog [lawIx]) hHk hOb topM hNames w := PySem.W.byRow2 "special-get-raises" (P := runP) hRunF hRunT w
end Ft
set_option Elab.async false
set_option linter.all false
set_option maxRecDepth 100000
set_option maxHeartbeats 0
namespace Ft
open PySem L2
theorem facts {P : PySem.Program} {w : World} {K : PySem.W.Frag} {h : Heap} {mg : Str → Option Value} {f : Addr} (X : K.In h) (G : h.Ns mainGlobals mg) (hfa : mg ("law" : Str) = some (.ref f)) (c : obsK K = valY w) :
    ∃ fd : FuncData, (∀ (s : Shared) (v : Value), BindsTo s fd ⟨[v], []⟩ [("_law_script", v)]) ∧ ∀ base : Heap, K.In base → base.Ns mainGlobals mg → FnG P w K mg base 31 f fd ["_law_script"] (spLaw K) := by
  have cT : He.SaysT hFa hFn hTs w K := congrArg (fun z : AlY => z.1) c
  have cM : (hEx K && hA.all fun d => d.ok K) = true := congrArg (fun z : AlY => z.2.1) c
  have cA : (hA.map fun d => He5.fnA K (d.at_ K)) = hA.map He5.DefA.val := congrArg (fun z : AlY => z.2.2) c
  have cd := cT.d
  obtain ⟨hX, hAok⟩ := Bool.and_eq_true_iff.mp cM
  obtain ⟨x1, hX⟩ := Bool.and_eq_true_iff.mp hX
  obtain ⟨xq_Late, hX⟩ := Bool.and_eq_true_iff.mp hX
  obtain ⟨xr_Late, hX⟩ := Bool.and_eq_true_iff.mp hX
  obtain ⟨xw_Late_of, hX⟩ := Bool.and_eq_true_iff.mp hX
  obtain ⟨xw_Late_whole, hX⟩ := Bool.and_eq_true_iff.mp hX
  obtain ⟨xw_Late_empty, hX⟩ := Bool.and_eq_true_iff.mp hX
  obtain ⟨xo_BadPlace, hX⟩ := Bool.and_eq_true_iff.mp hX
  have CR_Late : ClX.CRead K (He.ga K "Late") (.type "type") := cread_ok xr_Late
  obtain ⟨xa_Late_of, xb_Late_of⟩ := Bool.and_eq_true_iff.mp xw_Late_of
  have CM_Late_of : ClX.CMet K (He.ga K "Late") (.type "type") "of" (He.ma K (He.ga K "Late") "of") (He5.wf K (He.ga K "Late") "classmethod" "of") := He5.cmet_of xa_Late_of xb_Late_of
  obtain ⟨fdLateOf, F0LateOf⟩ := He5.DefA.funD (K := K) (d := ⟨fun K => He5.wf K (He.ga K "Late") "classmethod" "of", "of", "Late.of", defArgs sLateOf, defBody sLateOf, defScope sLateOf, [], []⟩) (List.cons.inj cA).1 (List.all_eq_true.mp hAok _ (by simp [hA]))
  have FLateOf : Fun K "of" "Late.of" sLateOf (He5.wf K (He.ga K "Late") "classmethod" "of") fdLateOf := He5.fun_of F0LateOf
  have bLateOf : Binds K fdLateOf ["cls", "program", "places"] [] := FLateOf.binds fun _ _ _ _ _ _ us hl => match us, hl with | [_, _, _], _ => rfl
  obtain ⟨xa_Late_whole, xb_Late_whole⟩ := Bool.and_eq_true_iff.mp xw_Late_whole
  have CM_Late_whole : ClX.CMet K (He.ga K "Late") (.type "type") "whole" (He.ma K (He.ga K "Late") "whole") (He5.wf K (He.ga K "Late") "classmethod" "whole") := He5.cmet_of xa_Late_whole xb_Late_whole
  obtain ⟨fdLateWhole, F0LateWhole⟩ := He5.DefA.funD (K := K) (d := ⟨fun K => He5.wf K (He.ga K "Late") "classmethod" "whole", "whole", "Late.whole", defArgs sLateWhole, defBody sLateWhole, defScope sLateWhole, [], []⟩) (List.cons.inj (List.cons.inj cA).2).1 (List.all_eq_true.mp hAok _ (by simp [hA]))
  have FLateWhole : Fun K "whole" "Late.whole" sLateWhole (He5.wf K (He.ga K "Late") "classmethod" "whole") fdLateWhole := He5.fun_of F0LateWhole
  have bLateWhole : Binds K fdLateWhole ["cls", "program"] [] := FLateWhole.binds fun _ _ _ _ _ _ us hl => match us, hl with | [_, _], _ => rfl
  obtain ⟨xa_Late_empty, xb_Late_empty⟩ := Bool.and_eq_true_iff.mp xw_Late_empty
  have CM_Late_empty : ClX.CMet K (He.ga K "Late") (.type "type") "empty" (He.ma K (He.ga K "Late") "empty") (He5.wf K (He.ga K "Late") "classmethod" "empty") := He5.cmet_of xa_Late_empty xb_Late_empty
  obtain ⟨fdLateEmpty, F0LateEmpty⟩ := He5.DefA.funD (K := K) (d := ⟨fun K => He5.wf K (He.ga K "Late") "classmethod" "empty", "empty", "Late.empty", defArgs sLateEmpty, defBody sLateEmpty, defScope sLateEmpty, [], []⟩) (List.cons.inj (List.cons.inj (List.cons.inj cA).2).2).1 (List.all_eq_true.mp hAok _ (by simp [hA]))
  have FLateEmpty : Fun K "empty" "Late.empty" sLateEmpty (He5.wf K (He.ga K "Late") "classmethod" "empty") fdLateEmpty := He5.fun_of F0LateEmpty
  have bLateEmpty : Binds K fdLateEmpty ["cls", "program"] [] := FLateEmpty.binds fun _ _ _ _ _ _ us hl => match us, hl with | [_, _], _ => rfl
  obtain ⟨fdLSource, F0LSource⟩ := cd.def_ 0 (d := dX "_law_source" sLSource) rfl
  have FLSource : Fun K "_law_source" "_law_source" sLSource (He.ga K "_law_source") fdLSource := He5.fun_of F0LSource
  have bLSource : Binds K fdLSource ["_law_script", "_law_k"] [] := FLSource.binds fun _ _ _ _ _ _ us hl => match us, hl with | [_, _], _ => rfl
  obtain ⟨fdLDraw, F0LDraw⟩ := cd.def_ 1 (d := dX "_law_draw" sLDraw) rfl
  have FLDraw : Fun K "_law_draw" "_law_draw" sLDraw (He.ga K "_law_draw") fdLDraw := He5.fun_of F0LDraw
  have bLDraw : Binds K fdLDraw ["_law_source_here", "_law_many"] [] := FLDraw.binds fun _ _ _ _ _ _ us hl => match us, hl with | [_, _], _ => rfl
  obtain ⟨fdLPick, F0LPick⟩ := cd.def_ 2 (d := dX "_law_pick" sLPick) rfl
  have FLPick : Fun K "_law_pick" "_law_pick" sLPick (He.ga K "_law_pick") fdLPick := He5.fun_of F0LPick
  have bLPick : Binds K fdLPick ["_law_source_here", "_law_some_here"] [] := FLPick.binds fun _ _ _ _ _ _ us hl => match us, hl with | [_, _], _ => rfl
  obtain ⟨fdLShuffled, F0LShuffled⟩ := cd.def_ 3 (d := dX "_law_shuffled" sLShuffled) rfl
  have FLShuffled : Fun K "_law_shuffled" "_law_shuffled" sLShuffled (He.ga K "_law_shuffled") fdLShuffled := He5.fun_of F0LShuffled
  have bLShuffled : Binds K fdLShuffled ["_law_source_here", "_law_things"] [] := FLShuffled.binds fun _ _ _ _ _ _ us hl => match us, hl with | [_, _], _ => rfl
  obtain ⟨fdLHanded, F0LHanded⟩ := cd.def_ 4 (d := dX "_law_handed" sLHanded) rfl
  have FLHanded : Fun K "_law_handed" "_law_handed" sLHanded (He.ga K "_law_handed") fdLHanded := He5.fun_of F0LHanded
  have bLHanded : Binds K fdLHanded ["_law_source_here", "_law_codes"] [] := FLHanded.binds fun _ _ _ _ _ _ us hl => match us, hl with | [_, _], _ => rfl
  obtain ⟨fdLSame, F0LSame⟩ := cd.def_ 5 (d := dX "_law_same" sLSame) rfl
  have FLSame : Fun K "_law_same" "_law_same" sLSame (He.ga K "_law_same") fdLSame := He5.fun_of F0LSame
  have bLSame : Binds K fdLSame ["_law_found", "_law_due"] [] := FLSame.binds fun _ _ _ _ _ _ us hl => match us, hl with | [_, _], _ => rfl
  obtain ⟨fdLBlocks, F0LBlocks⟩ := cd.def_ 6 (d := dX "_law_blocks" sLBlocks) rfl
  have FLBlocks : Fun K "_law_blocks" "_law_blocks" sLBlocks (He.ga K "_law_blocks") fdLBlocks := He5.fun_of F0LBlocks
  have bLBlocks : Binds K fdLBlocks ["_law_row"] [] := FLBlocks.binds fun _ _ _ _ _ _ us hl => match us, hl with | [_], _ => rfl
  obtain ⟨fdLSpots, F0LSpots⟩ := cd.def_ 7 (d := dX "_law_spots" sLSpots) rfl
  have FLSpots : Fun K "_law_spots" "_law_spots" sLSpots (He.ga K "_law_spots") fdLSpots := He5.fun_of F0LSpots
  have bLSpots : Binds K fdLSpots ["_law_module", "_law_rows", "_law_path"] [] := FLSpots.binds fun _ _ _ _ _ _ us hl => match us, hl with | [_, _, _], _ => rfl
  obtain ⟨fdLPlaces, F0LPlaces⟩ := cd.def_ 8 (d := dX "_law_places" sLPlaces) rfl
  have FLPlaces : Fun K "_law_places" "_law_places" sLPlaces (He.ga K "_law_places") fdLPlaces := He5.fun_of F0LPlaces
  have bLPlaces : Binds K fdLPlaces ["_law_library_here"] [] := FLPlaces.binds fun _ _ _ _ _ _ us hl => match us, hl with | [_], _ => rfl
  obtain ⟨fdLSize, F0LSize⟩ := cd.def_ 9 (d := dX "_law_size" sLSize) rfl
  have FLSize : Fun K "_law_size" "_law_size" sLSize (He.ga K "_law_size") fdLSize := He5.fun_of F0LSize
  have bLSize : Binds K fdLSize ["_law_rows"] [] := FLSize.binds fun _ _ _ _ _ _ us hl => match us, hl with | [_], _ => rfl
  obtain ⟨fdLPlants, F0LPlants⟩ := cd.def_ 10 (d := dX "_law_plants" sLPlants) rfl
  have FLPlants : Fun K "_law_plants" "_law_plants" sLPlants (He.ga K "_law_plants") fdLPlants := He5.fun_of F0LPlants
  have bLPlants : Binds K fdLPlants ["_law_p", "_law_q", "_law_r"] [] := FLPlants.binds fun _ _ _ _ _ _ us hl => match us, hl with | [_, _, _], _ => rfl
  obtain ⟨fdLSomeRow, F0LSomeRow⟩ := cd.def_ 11 (d := dX "_law_some_row" sLSomeRow) rfl
  have FLSomeRow : Fun K "_law_some_row" "_law_some_row" sLSomeRow (He.ga K "_law_some_row") fdLSomeRow := He5.fun_of F0LSomeRow
  have bLSomeRow : Binds K fdLSomeRow ["_law_source_here", "_law_words"] [] := FLSomeRow.binds fun _ _ _ _ _ _ us hl => match us, hl with | [_, _], _ => rfl
  obtain ⟨fdLLibrary, F0LLibrary⟩ := cd.def_ 12 (d := dX "_law_library" sLLibrary) rfl
  have FLLibrary : Fun K "_law_library" "_law_library" sLLibrary (He.ga K "_law_library") fdLLibrary := He5.fun_of F0LLibrary
  have bLLibrary : Binds K fdLLibrary ["_law_source_here", "_law_bound"] [] := FLLibrary.binds fun _ _ _ _ _ _ us hl => match us, hl with | [_, _], _ => rfl
  obtain ⟨fdLSome, F0LSome⟩ := cd.def_ 13 (d := dX "_law_some" sLSome) rfl
  have FLSome : Fun K "_law_some" "_law_some" sLSome (He.ga K "_law_some") fdLSome := He5.fun_of F0LSome
  have bLSome : Binds K fdLSome ["_law_source_here", "_law_things"] [] := FLSome.binds fun _ _ _ _ _ _ us hl => match us, hl with | [_, _], _ => rfl
  obtain ⟨fdLOddPlaces, F0LOddPlaces⟩ := cd.def_ 14 (d := dX "_law_odd_places" sLOddPlaces) rfl
  have FLOddPlaces : Fun K "_law_odd_places" "_law_odd_places" sLOddPlaces (He.ga K "_law_odd_places") fdLOddPlaces := He5.fun_of F0LOddPlaces
  have bLOddPlaces : Binds K fdLOddPlaces ["_law_library_here"] [] := FLOddPlaces.binds fun _ _ _ _ _ _ us hl => match us, hl with | [_], _ => rfl
  obtain ⟨fdLListed, F0LListed⟩ := cd.def_ 15 (d := dX "_law_listed" sLListed) rfl
  have FLListed : Fun K "_law_listed" "_law_listed" sLListed (He.ga K "_law_listed") fdLListed := He5.fun_of F0LListed
  have bLListed : Binds K fdLListed ["_law_source_here", "_law_place"] [] := FLListed.binds fun _ _ _ _ _ _ us hl => match us, hl with | [_, _], _ => rfl
  obtain ⟨fdLRefused, F0LRefused⟩ := cd.def_ 16 (d := dX "_law_refused" sLRefused) rfl
  have FLRefused : Fun K "_law_refused" "_law_refused" sLRefused (He.ga K "_law_refused") fdLRefused := He5.fun_of F0LRefused
  have bLRefused : Binds K fdLRefused ["_law_made", "_law_things"] [] := FLRefused.binds fun _ _ _ _ _ _ us hl => match us, hl with | [_, _], _ => rfl
  obtain ⟨fdLaw, F0Law⟩ := cd.def_ 17 (d := dX "law" sLaw) rfl
  have FLaw : Fun K "law" "law" sLaw (He.ga K "law") fdLaw := He5.fun_of F0Law
  have bLaw : Binds K fdLaw ["_law_script"] [] := FLaw.binds fun _ _ _ _ _ _ us hl => match us, hl with | [_], _ => rfl
  obtain ⟨fdIsInteger, F0IsInteger⟩ := cd.def_ 18 (d := dX "is_integer" sIsInteger) rfl
  have FIsInteger : Fun K "is_integer" "is_integer" sIsInteger (He.ga K "is_integer") fdIsInteger := He5.fun_of F0IsInteger
  have bIsInteger : Binds K fdIsInteger ["thing"] [] := FIsInteger.binds fun _ _ _ _ _ _ us hl => match us, hl with | [_], _ => rfl
  obtain ⟨fdIsWord, F0IsWord⟩ := cd.def_ 19 (d := dX "is_word" sIsWord) rfl
  have FIsWord : Fun K "is_word" "is_word" sIsWord (He.ga K "is_word") fdIsWord := He5.fun_of F0IsWord
  have bIsWord : Binds K fdIsWord ["thing"] [] := FIsWord.binds fun _ _ _ _ _ _ us hl => match us, hl with | [_], _ => rfl
  obtain ⟨fdIsField, F0IsField⟩ := cd.def_ 20 (d := dX "is_field" sIsField) rfl
  have FIsField : Fun K "is_field" "is_field" sIsField (He.ga K "is_field") fdIsField := He5.fun_of F0IsField
  have bIsField : Binds K fdIsField ["field", "part"] [] := FIsField.binds fun _ _ _ _ _ _ us hl => match us, hl with | [_, _], _ => rfl
  obtain ⟨fdIsRow, F0IsRow⟩ := cd.def_ 21 (d := dX "is_row" sIsRow) rfl
  have FIsRow : Fun K "is_row" "is_row" sIsRow (He.ga K "is_row") fdIsRow := He5.fun_of F0IsRow
  have bIsRow : Binds K fdIsRow ["thing", "is_within"] [] := FIsRow.binds fun _ _ _ _ _ _ us hl => match us, hl with | [_, _], _ => rfl
  obtain ⟨fdBlocksOf, F0BlocksOf⟩ := cd.def_ 22 (d := dX "blocks_of" sBlocksOf) rfl
  have FBlocksOf : Fun K "blocks_of" "blocks_of" sBlocksOf (He.ga K "blocks_of") fdBlocksOf := He5.fun_of F0BlocksOf
  have bBlocksOf : Binds K fdBlocksOf ["row"] [] := FBlocksOf.binds fun _ _ _ _ _ _ us hl => match us, hl with | [_], _ => rfl
  obtain ⟨fdFirstWrong, F0FirstWrong⟩ := cd.def_ 23 (d := dX "first_wrong" sFirstWrong) rfl
  have FFirstWrong : Fun K "first_wrong" "first_wrong" sFirstWrong (He.ga K "first_wrong") fdFirstWrong := He5.fun_of F0FirstWrong
  have bFirstWrong : Binds K fdFirstWrong ["rows", "path", "is_within"] [] := FFirstWrong.binds fun _ _ _ _ _ _ us hl => match us, hl with | [_, _, _], _ => rfl
  obtain ⟨fdCheckModules, F0CheckModules⟩ := cd.def_ 24 (d := dX "check_modules" sCheckModules) rfl
  have FCheckModules : Fun K "check_modules" "check_modules" sCheckModules (He.ga K "check_modules") fdCheckModules := He5.fun_of F0CheckModules
  have bCheckModules : Binds K fdCheckModules ["modules"] [] := FCheckModules.binds fun _ _ _ _ _ _ us hl => match us, hl with | [_], _ => rfl
  obtain ⟨fdFrozen, F0Frozen⟩ := cd.def_ 25 (d := dX "frozen" sFrozen) rfl
  have FFrozen : Fun K "frozen" "frozen" sFrozen (He.ga K "frozen") fdFrozen := He5.fun_of F0Frozen
  have bFrozen : Binds K fdFrozen ["rows"] [] := FFrozen.binds fun _ _ _ _ _ _ us hl => match us, hl with | [_], _ => rfl
  obtain ⟨fdWalked, F0Walked⟩ := cd.def_ 26 (d := dX "walked" sWalked) rfl
  have FWalked : Fun K "walked" "walked" sWalked (He.ga K "walked") fdWalked := He5.fun_of F0Walked
  have bWalked : Binds K fdWalked ["rows", "path"] [] := FWalked.binds fun _ _ _ _ _ _ us hl => match us, hl with | [_, _], _ => rfl
  obtain ⟨fdPlaceOf, F0PlaceOf⟩ := cd.def_ 27 (d := dX "place_of" sPlaceOf) rfl
  have FPlaceOf : Fun K "place_of" "place_of" sPlaceOf (He.ga K "place_of") fdPlaceOf := He5.fun_of F0PlaceOf
  have bPlaceOf : Binds K fdPlaceOf ["thing"] [] := FPlaceOf.binds fun _ _ _ _ _ _ us hl => match us, hl with | [_], _ => rfl
  obtain ⟨fdProgramInit, F0ProgramInit⟩ := cd.def_ 28 (d := dM "Program" "__init__" "Program.__init__" sProgramInit) rfl
  have FProgramInit : Fun K "__init__" "Program.__init__" sProgramInit (He.ma K (He.ga K "Program") "__init__") fdProgramInit := He5.fun_of F0ProgramInit
  have bProgramInit : Binds K fdProgramInit ["self", "modules"] [] := FProgramInit.binds fun _ _ _ _ _ _ us hl => match us, hl with | [_, _], _ => rfl
  obtain ⟨fdLateInit, F0LateInit⟩ := cd.def_ 29 (d := dM "Late" "__init__" "Late.__init__" sLateInit) rfl
  have FLateInit : Fun K "__init__" "Late.__init__" sLateInit (He.ma K (He.ga K "Late") "__init__") fdLateInit := He5.fun_of F0LateInit
  have bLateInit : Binds K fdLateInit ["self", "program", "spots"] [] := FLateInit.binds fun _ _ _ _ _ _ us hl => match us, hl with | [_, _, _], _ => rfl
  obtain ⟨fdLatePlaces, F0LatePlaces⟩ := cd.def_ 30 (d := dM "Late" "places" "Late.places" sLatePlaces) rfl
  have FLatePlaces : Fun K "places" "Late.places" sLatePlaces (He.ma K (He.ga K "Late") "places") fdLatePlaces := He5.fun_of F0LatePlaces
  have bLatePlaces : Binds K fdLatePlaces ["self"] [] := FLatePlaces.binds fun _ _ _ _ _ _ us hl => match us, hl with | [_], _ => rfl
  obtain ⟨fdLateLen, F0LateLen⟩ := cd.def_ 31 (d := dM "Late" "__len__" "Late.__len__" sLateLen) rfl
  have FLateLen : Fun K "__len__" "Late.__len__" sLateLen (He.ma K (He.ga K "Late") "__len__") fdLateLen := He5.fun_of F0LateLen
  have bLateLen : Binds K fdLateLen ["self"] [] := FLateLen.binds fun _ _ _ _ _ _ us hl => match us, hl with | [_], _ => rfl
  obtain ⟨fdBadPlaceInit, F0BadPlaceInit⟩ := cd.def_ 32 (d := dM "BadPlace" "__init__" "BadPlace.__init__" sBadPlaceInit) rfl
  have FBadPlaceInit : Fun K "__init__" "BadPlace.__init__" sBadPlaceInit (He.ma K (He.ga K "BadPlace") "__init__") fdBadPlaceInit := He5.fun_of F0BadPlaceInit
  have bBadPlaceInit : Binds K fdBadPlaceInit ["self", "place"] [] := FBadPlaceInit.binds fun _ _ _ _ _ _ us hl => match us, hl with | [_, _], _ => rfl
  have mLSource : mg ("_law_source" : Str) = some (.ref (He.ga K "_law_source")) := He.glo_ok X G (cd.fact 0 (f := .glo "_law_source") rfl)
  have mLDraw : mg ("_law_draw" : Str) = some (.ref (He.ga K "_law_draw")) := He.glo_ok X G (cd.fact 1 (f := .glo "_law_draw") rfl)
  have mLPick : mg ("_law_pick" : Str) = some (.ref (He.ga K "_law_pick")) := He.glo_ok X G (cd.fact 2 (f := .glo "_law_pick") rfl)
  have mLShuffled : mg ("_law_shuffled" : Str) = some (.ref (He.ga K "_law_shuffled")) := He.glo_ok X G (cd.fact 3 (f := .glo "_law_shuffled") rfl)
  have mLHanded : mg ("_law_handed" : Str) = some (.ref (He.ga K "_law_handed")) := He.glo_ok X G (cd.fact 4 (f := .glo "_law_handed") rfl)
  have mLSame : mg ("_law_same" : Str) = some (.ref (He.ga K "_law_same")) := He.glo_ok X G (cd.fact 5 (f := .glo "_law_same") rfl)
  have mLBlocks : mg ("_law_blocks" : Str) = some (.ref (He.ga K "_law_blocks")) := He.glo_ok X G (cd.fact 6 (f := .glo "_law_blocks") rfl)
  have mLSpots : mg ("_law_spots" : Str) = some (.ref (He.ga K "_law_spots")) := He.glo_ok X G (cd.fact 7 (f := .glo "_law_spots") rfl)
  have mLPlaces : mg ("_law_places" : Str) = some (.ref (He.ga K "_law_places")) := He.glo_ok X G (cd.fact 8 (f := .glo "_law_places") rfl)
  have mLSize : mg ("_law_size" : Str) = some (.ref (He.ga K "_law_size")) := He.glo_ok X G (cd.fact 9 (f := .glo "_law_size") rfl)
  have mLPlants : mg ("_law_plants" : Str) = some (.ref (He.ga K "_law_plants")) := He.glo_ok X G (cd.fact 10 (f := .glo "_law_plants") rfl)
  have mLSomeRow : mg ("_law_some_row" : Str) = some (.ref (He.ga K "_law_some_row")) := He.glo_ok X G (cd.fact 11 (f := .glo "_law_some_row") rfl)
  have mLLibrary : mg ("_law_library" : Str) = some (.ref (He.ga K "_law_library")) := He.glo_ok X G (cd.fact 12 (f := .glo "_law_library") rfl)
  have mLSome : mg ("_law_some" : Str) = some (.ref (He.ga K "_law_some")) := He.glo_ok X G (cd.fact 13 (f := .glo "_law_some") rfl)
  have mLOddPlaces : mg ("_law_odd_places" : Str) = some (.ref (He.ga K "_law_odd_places")) := He.glo_ok X G (cd.fact 14 (f := .glo "_law_odd_places") rfl)
  have mLListed : mg ("_law_listed" : Str) = some (.ref (He.ga K "_law_listed")) := He.glo_ok X G (cd.fact 15 (f := .glo "_law_listed") rfl)
  have mLRefused : mg ("_law_refused" : Str) = some (.ref (He.ga K "_law_refused")) := He.glo_ok X G (cd.fact 16 (f := .glo "_law_refused") rfl)
  have mLaw : mg ("law" : Str) = some (.ref (He.ga K "law")) := He.glo_ok X G (cd.fact 17 (f := .glo "law") rfl)
  have mIsInteger : mg ("is_integer" : Str) = some (.ref (He.ga K "is_integer")) := He.glo_ok X G (cd.fact 18 (f := .glo "is_integer") rfl)
  have mIsWord : mg ("is_word" : Str) = some (.ref (He.ga K "is_word")) := He.glo_ok X G (cd.fact 19 (f := .glo "is_word") rfl)
  have mIsField : mg ("is_field" : Str) = some (.ref (He.ga K "is_field")) := He.glo_ok X G (cd.fact 20 (f := .glo "is_field") rfl)
  have mIsRow : mg ("is_row" : Str) = some (.ref (He.ga K "is_row")) := He.glo_ok X G (cd.fact 21 (f := .glo "is_row") rfl)
  have mBlocksOf : mg ("blocks_of" : Str) = some (.ref (He.ga K "blocks_of")) := He.glo_ok X G (cd.fact 22 (f := .glo "blocks_of") rfl)
  have mFirstWrong : mg ("first_wrong" : Str) = some (.ref (He.ga K "first_wrong")) := He.glo_ok X G (cd.fact 23 (f := .glo "first_wrong") rfl)
  have mCheckModules : mg ("check_modules" : Str) = some (.ref (He.ga K "check_modules")) := He.glo_ok X G (cd.fact 24 (f := .glo "check_modules") rfl)
  have mFrozen : mg ("frozen" : Str) = some (.ref (He.ga K "frozen")) := He.glo_ok X G (cd.fact 25 (f := .glo "frozen") rfl)
  have mWalked : mg ("walked" : Str) = some (.ref (He.ga K "walked")) := He.glo_ok X G (cd.fact 26 (f := .glo "walked") rfl)
  have mPlaceOf : mg ("place_of" : Str) = some (.ref (He.ga K "place_of")) := He.glo_ok X G (cd.fact 27 (f := .glo "place_of") rfl)
  have z_int : mg ("int" : Str) = none := He.free_ok X G (cd.fact 28 (f := .free "int") rfl)
  have z_len : mg ("len" : Str) = none := He.free_ok X G (cd.fact 29 (f := .free "len") rfl)
  have z_range : mg ("range" : Str) = none := He.free_ok X G (cd.fact 30 (f := .free "range") rfl)
  have z_isinstance : mg ("isinstance" : Str) = none := He.free_ok X G (cd.fact 31 (f := .free "isinstance") rfl)
  have z_tuple : mg ("tuple" : Str) = none := He.free_ok X G (cd.fact 32 (f := .free "tuple") rfl)
  have z_list : mg ("list" : Str) = none := He.free_ok X G (cd.fact 33 (f := .free "list") rfl)
  have z_dict : mg ("dict" : Str) = none := He.free_ok X G (cd.fact 34 (f := .free "dict") rfl)
  have z_str : mg ("str" : Str) = none := He.free_ok X G (cd.fact 35 (f := .free "str") rfl)
  have z_bool : mg ("bool" : Str) = none := He.free_ok X G (cd.fact 36 (f := .free "bool") rfl)
  have z_sorted : mg ("sorted" : Str) = none := He.free_ok X G (cd.fact 37 (f := .free "sorted") rfl)
  have z_zip : mg ("zip" : Str) = none := He.free_ok X G (cd.fact 38 (f := .free "zip") rfl)
  have z_enumerate : mg ("enumerate" : Str) = none := He.free_ok X G (cd.fact 39 (f := .free "enumerate") rfl)
  have z_all : mg ("all" : Str) = none := He.free_ok X G (cd.fact 40 (f := .free "all") rfl)
  have z_max : mg ("max" : Str) = none := He.free_ok X G (cd.fact 41 (f := .free "max") rfl)
  have z_min : mg ("min" : Str) = none := He.free_ok X G (cd.fact 42 (f := .free "min") rfl)
  have z_sum : mg ("sum" : Str) = none := He.free_ok X G (cd.fact 43 (f := .free "sum") rfl)
  have z_any : mg ("any" : Str) = none := He.free_ok X G (cd.fact 44 (f := .free "any") rfl)
  have z_repr : mg ("repr" : Str) = none := He.free_ok X G (cd.fact 45 (f := .free "repr") rfl)
  have mProgram : mg ("Program" : Str) = some (.ref (He.ga K "Program")) := He.glo_ok X G (cd.fact 46 (f := .glo "Program") rfl)
  have c_Program : Cls K (He.ga K "Program") := He.cls_ok (cd.fact 47 (f := .cls "Program") rfl)
  have n_Program_rows_of : PySem.W.findIn K (.ref (He.ga K "Program")) "rows_of" = some none := He.eqO_ok (cd.fact 48 (f := .noat "Program" "rows_of") rfl)
  have n_Program_spots : PySem.W.findIn K (.ref (He.ga K "Program")) "spots" = some none := He.eqO_ok (cd.fact 49 (f := .noat "Program" "spots") rfl)
  have k_Program : Mk K (He.ga K "Program") (He.ma K (He.ga K "Program") "__init__") := He.mkr_ok (cd.fact 50 (f := .mkr "Program") rfl)
  have mLate : mg ("Late" : Str) = some (.ref (He.ga K "Late")) := He.glo_ok X G (cd.fact 51 (f := .glo "Late") rfl)
  have c_Late : Cls K (He.ga K "Late") := He.cls_ok (cd.fact 52 (f := .cls "Late") rfl)
  have n_Late_program : PySem.W.findIn K (.ref (He.ga K "Late")) "program" = some none := He.eqO_ok (cd.fact 53 (f := .noat "Late" "program") rfl)
  have n_Late_spots : PySem.W.findIn K (.ref (He.ga K "Late")) "spots" = some none := He.eqO_ok (cd.fact 54 (f := .noat "Late" "spots") rfl)
  have k_Late : Mk K (He.ga K "Late") (He.ma K (He.ga K "Late") "__init__") := He.mkr_ok (cd.fact 55 (f := .mkr "Late") rfl)
  have e_Late_places : Meth K (He.ga K "Late") "places" (He.ma K (He.ga K "Late") "places") := He.meth_ok (cd.fact 56 (f := .meth "Late" "places") rfl)
  have e_Late___len__ : Meth K (He.ga K "Late") "__len__" (He.ma K (He.ga K "Late") "__len__") := He.meth_ok (cd.fact 57 (f := .meth "Late" "__len__") rfl)
  have mFIELDS : mg ("FIELDS" : Str) = some (.ref (He.ga K "FIELDS")) := He.glo_ok X G (cd.fact 58 (f := .glo "FIELDS") rfl)
  obtain ⟨tL, mL⟩ : ∃ t, mg ("LETTERS" : Str) = some (.str letters t) := He.str_ok X G (cd.fact 59 (f := .str "LETTERS" letters) rfl)
  have mBadPlace : mg ("BadPlace" : Str) = some (.ref (He.ga K "BadPlace")) := He.glo_ok X G (cd.fact 60 (f := .glo "BadPlace") rfl)
  have n_BadPlace_place : PySem.W.findIn K (.ref (He.ga K "BadPlace")) "place" = some none := He.eqO_ok (cd.fact 61 (f := .noat "BadPlace" "place") rfl)
  have x_BadPlace_BadPlace : PySem.W.exmOne K (.ref (He.ga K "BadPlace")) (.ref (He.ga K "BadPlace")) = some true := He.exm_ok (cd.fact 62 (f := .exm "BadPlace" "BadPlace" true) rfl)
  have B : Bl mg := ⟨z_int, z_len, z_range, z_isinstance, z_tuple, z_list, z_dict, z_str, z_bool, z_sorted, z_zip, z_enumerate, z_all, z_max, z_min, z_sum, z_any⟩
  have eT : (hTs.map fun t => He.dicW K (t.1 K)) = hTs.map fun t => some (He.keysIn w.params t.2) := congrArg (fun z : He.AlT => z.2) cT
  have TF : FldT K w mg (He.ga K "FIELDS") := ⟨mFIELDS, cT.tab 0 (t := (fun K => He.ga K "FIELDS", fieldsT.map (·.1))) rfl, fun p hp => fldB_ok (List.all_eq_true.mp x1 p hp), fun z hz => no_key (List.cons.inj eT).1 hz⟩
  have PC : PCls K mg (He.ga K "Program") := ⟨mProgram, c_Program, n_Program_rows_of, n_Program_spots⟩
  have LC : LtCls K (He.ga K "Late") := ⟨c_Late, fun a ha => by
    simp only [List.mem_cons, List.mem_nil_iff, or_false] at ha
    rcases ha with e | e <;> subst e <;> assumption⟩
  have hPE_Late : PlainEq K (He.ga K "Late") := eqpB_ok xq_Late
  obtain ⟨oex_BadPlace, xf_BadPlace, i_BadPlace, t_BadPlace⟩ := errB_ok xo_BadPlace
  have e := hfa.symm.trans mLaw
  cases e
  refine ⟨fdLaw, fun s v => FunD.bindsA (ps := ["_law_script"]) F0Law (fun _ _ _ _ _ _ us hl => match us, hl with | [_], _ => rfl) s [v] rfl, fun base _ _ => ?_⟩
  have gIsInteger := own_mk (k := 1) (P := P) (w := w) (base := base) FIsInteger mIsInteger bIsInteger (ok_IsInteger FIsInteger B)
  have gIsWord := own_mk (k := 1) (P := P) (w := w) (base := base) FIsWord mIsWord bIsWord (ok_IsWord FIsWord B mL)
  have gIsField := own_mk FIsField mIsField bIsField (ok_IsField FIsField B gIsWord gIsInteger)
  have gIsRow := own_mk FIsRow mIsRow bIsRow (ok_IsRow FIsRow B TF gIsField)
  have gBlocksOf := own_mk (P := P) (w := w) (base := base) FBlocksOf mBlocksOf bBlocksOf (ok_BlocksOf (k := 0) FBlocksOf B TF)
  have gFirstWrong := firstWrong_ok FFirstWrong B mFirstWrong bFirstWrong (gIsRow.mono (by decide)) gBlocksOf 3
  have gCheckModules := own_mk FCheckModules mCheckModules bCheckModules (ok_CheckModules (k := 8) FCheckModules B (by decide) gIsWord gFirstWrong)
  have gFrozen := frozen_ok (P := P) (w := w) (base := base) FFrozen B TF mFrozen bFrozen 3
  have gWalked := walked_ok FWalked B mWalked bWalked gBlocksOf 3
  have fInit : FnOk P w K mg base CX0 10 (He.ma K (He.ga K "Program") "__init__") fdProgramInit ["self", "modules"] (spProgramInit (He.ga K "Program")) := ok_ProgramInit (k := 9) FProgramInit B PC (by decide) gCheckModules gFrozen gWalked
  have gProgram : OwnC P w K mg base 10 "Program" (He.ga K "Program") ["self", "modules"] (spProgramInit (He.ga K "Program")) := ⟨_, _, k_Program, fInit, mProgram, bProgramInit⟩
  have gLDraw := own_mk (k := 1) (P := P) (w := w) (base := base) FLDraw mLDraw bLDraw (ok_LDraw FLDraw B)
  have gLSource := own_mk (k := 1) (P := P) (w := w) (base := base) FLSource mLSource bLSource (ok_LSource FLSource B)
  have gLPick := own_mk FLPick mLPick bLPick (ok_LPick FLPick B gLDraw)
  have gLBlocks := own_mk (P := P) (w := w) (base := base) FLBlocks mLBlocks bLBlocks (ok_LBlocksD (k := 0) FLBlocks B)
  have gLSpots := lspots_ok (P := P) (w := w) (base := base) FLSpots B mLSpots bLSpots gLBlocks 3
  have gLPlaces := own_mk FLPlaces mLPlaces bLPlaces (ok_LPlaces (k := 5) FLPlaces B (by decide) gLSpots)
  have gLSize := lsize_ok (P := P) (w := w) (base := base) FLSize B mLSize bLSize gLBlocks 3
  have gLShuffled := own_mk FLShuffled mLShuffled bLShuffled (ok_LShuffled (k := 1) FLShuffled B (by decide) gLDraw)
  have gLPlants := own_mk (P := P) (w := w) (base := base) FLPlants mLPlants bLPlants (ok_LPlants (k := 1) FLPlants B)
  have gLSomeRow := own_mk FLSomeRow mLSomeRow bLSomeRow (ok_LSomeRow (k := 2) FLSomeRow B (by decide) gLDraw gLPick)
  have gLLibrary := own_mk FLLibrary mLLibrary bLLibrary (ok_LLibrary (k := 7) FLLibrary B (by decide) gLDraw gLPick gLShuffled gLPlants gLSomeRow gLPlaces gLSize)
  have fLateInit := ok_LateInit (P := P) (w := w) (mg := mg) (base := base) (k := 0) FLateInit LC
  have FE_whole := ok_LateWhole (CP := He.ga K "Program") (k := 2) FLateWhole B PC (by decide) k_Late fLateInit bLateInit
  have FE_empty := ok_LateEmpty (P := P) (w := w) (mg := mg) (base := base) (k := 2) FLateEmpty (by decide) k_Late fLateInit bLateInit
  have gm_places : OwnM P w K mg base 1 (He.ga K "Late") "places" ["self"] (spLatePlaces (He.ga K "Late")) _ _ := ⟨c_Late, e_Late_places, ok_LatePlaces (k := 0) FLatePlaces B LC, bLatePlaces⟩
  have gLate : OwnC P w K mg base 1 "Late" (He.ga K "Late") ["self", "program", "spots"] (spLateInit (He.ga K "Late")) := ⟨_, _, k_Late, fLateInit, mLate, bLateInit⟩
  have gPlaceOf := own_mk (P := P) (w := w) (base := base) FPlaceOf mPlaceOf bPlaceOf (ok_PlaceOfT (k := 0) FPlaceOf B)
  have eB : ErrT P w K mg base "BadPlace" "place" ["self", "place"] (He.ga K "BadPlace") := ⟨oex_BadPlace, mBadPlace, n_BadPlace_place, ⟨_, _, i_BadPlace, t_BadPlace, ok_BadPlaceInit (k := 0) FBadPlaceInit oex_BadPlace n_BadPlace_place, bBadPlaceInit⟩, xf_BadPlace⟩
  have FE_G := ok_LateOfG (CP := He.ga K "Program") (k := 2) FLateOf B PC (by decide) k_Late fLateInit bLateInit gPlaceOf eB
  have FE_of := ok_LateOfR FE_G
  have gLRefused := own_mk FLRefused mLRefused bLRefused (ok_LRefused (k := 4) FLRefused B (by decide) mLate CR_Late CM_Late_of FE_G bLateOf eB x_BadPlace_BadPlace)
  have gLSome := own_mk FLSome mLSome bLSome (ok_LSome (k := 1) FLSome B (by decide) gLDraw)
  have gLListed := own_mk FLListed mLListed bLListed (ok_LListed (k := 1) FLListed B (by decide) gLDraw)
  have gLHanded := own_mk FLHanded mLHanded bLHanded (ok_LHandedL (k := 1) FLHanded B (by decide) gLDraw)
  have gLOddPlaces := own_mk FLOddPlaces mLOddPlaces bLOddPlaces (ok_LOddPlaces (k := 6) FLOddPlaces B (by decide) gLPlaces)
  have gLSame : Own P w K mg base 6 "_law_same" ["_law_found", "_law_due"] (spLSameP 4) := (lsameP_ok FLSame B mLSame bLSame 4).mono (by decide)
  have Flen := ok_LateLen (P := P) (w := w) (mg := mg) (base := base) (k := 0) FLateLen B LC
  exact ok_law (k := 30) FLaw B z_repr (by decide) gLSource gLDraw gLPick gLLibrary gLPlaces gLSome gLShuffled gLListed gLHanded gLOddPlaces gLRefused gLSame gProgram hPE_Late mLate CR_Late CM_Late_of CM_Late_whole CM_Late_empty FE_of FE_whole FE_empty bLateOf bLateWhole bLateEmpty gm_places e_Late___len__ Flen bLateLen
end Ft
open PySem PySem.W PySem.Calls PyProof.Rows
set_option maxRecDepth 100000 in
set_option maxHeartbeats 0 in
theorem PySem.Challenge.cw_firsttouch_k13_late_sets_made_holds : PySem.Challenge.rw_firsttouch_k13_late_sets_made.Holds := by
  w_on; o_law
  refine HandSHeadRun.head_any (r := Ft.hR) (q := view Ft.hR.prog [Ft.lawIx]) (H := Ft.hHk) (ob := Ft.hOb) (M := Ft.topM) (loose := Ft.hNames) (d := HandSHeadRun.topDef Ft.hR.prog Ft.lawIx) (kwd := []) Ft.hOb_eq
    (by kernel_rfl) (fun s => by kernel_rfl) Ft.hRun (by kernel_rfl) (by kernel_rfl) (by kernel_rfl) (by rfl) (by first | assumption | decide +kernel) (by decide +kernel) ⟨rfl, rfl, rfl, rfl, rfl, by decide +kernel⟩ ?hw ?hc
  case hw => w_witness2
  case hc =>
    refine Ft.walk_ofG (l := PySem.Challenge.rw_firsttouch_k13_late_sets_made) (n := 63) (k := 31) (x := "_law_script") rfl (by decide) (by kernel_rfl) ⟨rfl, by decide, by decide⟩ ?F
    intro w mg fa h Y G hmg0
    obtain ⟨K, KX, c⟩ := Y
    have hmg : mg ("law" : PySem.Str) = some (.ref fa) := by
      have e : (HandSHeadRun.topDef Ft.hR.prog Ft.lawIx).name = ("law" : PySem.Str) := by kernel_rfl
      rw [← e]
      exact hmg0
    obtain ⟨fd, hb, hF⟩ := Ft.facts (P := (PySem.Challenge.rw_firsttouch_k13_late_sets_made).prog) (w := w) KX G hmg c
    exact ⟨K, fd, Ft.spLaw K, KX, hb, fun H a ns hl _ hS => ⟨a, ns, rfl, hS, fun _ => rfl⟩, hF⟩
