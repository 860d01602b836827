import PyProof.Rows.All
import Wide.All
import OpenK.AllK
import Wide.FinOn
import HandS.ForMost
import HandS.Walk
import HandS.Zip
import HandS.IsInst
import KE.GoesMore
import KE.GoesZip
import KE.GoesEnum
import HandS.Codes
import HandS.TupAny
import HandS.Deep
import HandS.Wide
import PySem.Challenge.RW_firsttouch_k12_whole_texts_spoilt
import HandS.More
import HandS.RaiseMore
import HandS.Text
import HandS.DictComp
import KE.SortData
import HandS.SuiteRaise
import HandS.ExcCtx
import KE.KExcRaise
import HandS.ExcInit
import HandS.ExcField
import HandS.WordsExc
import HandS.TryMany
import HandS.Lambda
import HandS.ExcOwn
import HandS.EndOwn
import HandS.StrMore
import HandS.Small
import KE.IntTextLaws
import HandS.Call
import HandS.List
import HandS.Replace
import HandS.ReplaceLit
import PyProof.Rows.StrItems
import PyProof.Rows.StrStrike
import HandS.Style
import KE.KEqDict
import PyProof.NeKinds
import HandS.Defaults
import HandS.MakeKwOnly
import HandS.ClsMeth
import KE.KDictKeyed
import HandS.SetFor
import PyProof.SeqRoads2
import HandS.OwnEq
import PyProof.InstNe
import KE.KStateDown
import HandS.Head0
import HandS.Head1
import HandS.Head2
import HandS.HeadEnd
import HandS.HeadHook1
import HandS.HeadHook2
import HandS.HeadHook3
import HandS.HeadHook4
import HandS.HeadNt
set_option Elab.async false
set_option linter.all false
set_option maxRecDepth 100000
set_option maxHeartbeats 4000000
namespace Ft
open PySem PySem.Spec PyProof.Rows L2
/-- a list (true) or a tuple (false) -/
def Sq (kd : Bool) (K : PySem.W.Frag) (H : Hp) (a : Addr) (xs : List V) : Prop := match kd with
  | true => SqL K H a xs
  | false => SqT K H a xs
def SIter (kd : Bool) (h : Heap) (it l : Addr) (i : Nat) : Prop := match kd with
  | true => h.IsListIter it l i
  | false => h.IsTupleIter it l i
def SAt (kd : Bool) (h : Heap) (l : Addr) (items : Array Value) : Prop := match kd with
  | true => h.IsList l items
  | false => h.IsTuple l items
def sIterO (kd : Bool) (l : Addr) : Obj := match kd with
  | true => { cls := .type "list_iterator", data := .fields #[.ref l, .int 0 0] }
  | false => { cls := .type "tuple_iterator", data := .fields #[.ref l, .int 0 0] }
theorem sdraws (kd : Bool) {prog : Program} {w : World} {A : Around} (hh : A.handled = none) (it l : Addr) (hne : l ≠ it) (items : Array Value) :
    Draws prog w A it [it, l] items.size (fun i v => items[i]? = some v) (fun i h => SIter kd h it l i ∧ SAt kd h l items) := by
  cases kd with
  | true => exact Draws.list hh it l hne items
  | false => exact Draws.tuple hh it l hne items
theorem sbegins (kd : Bool) (l : Addr) (items : Array Value) : Begins (.ref l) (sIterO kd l) fun h => SAt kd h l items := by
  cases kd with
  | true => exact begins_list l items
  | false => exact begins_tuple l items
theorem siter0 {kd : Bool} {h : Heap} {it l : Addr} (e : h.get? it = some (sIterO kd l)) : SIter kd h it l 0 := by
  cases kd with
  | true => exact ⟨_, e, rfl, rfl⟩
  | false => exact ⟨_, e, rfl, rfl⟩
theorem SIter.at {kd : Bool} {h h' : Heap} {it l : Addr} {i : Nat} (x : SIter kd h it l i) (k : ∀ o, h.get? it = some o → h'.get? it = some o) : SIter kd h' it l i := by
  cases kd with
  | true => exact Heap.IsListIter.at x k
  | false => exact Heap.IsTupleIter.at x k
theorem SIter.obj {kd : Bool} {h : Heap} {it l : Addr} {i : Nat} (x : SIter kd h it l i) : ∃ o, h.get? it = some o ∧ ∀ v, o.data ≠ .cell v := by
  cases kd with
  | true =>
    obtain ⟨o, ho, hc, hd⟩ := x
    exact ⟨o, ho, fun v q => by rw [hd] at q; cases q⟩
  | false =>
    obtain ⟨o, ho, hc, hd⟩ := x
    exact ⟨o, ho, fun v q => by rw [hd] at q; cases q⟩
section
variable {X : Cx} {pins : List (Addr × Obj)} {σ : L2.St} {H : Hp} {s : Shared} {a : Addr} {xs ys : List V}
theorem sq_at {kd : Bool} (I : Inv X pins σ H s) (h : Sq kd X.K H a xs) : ∃ its : List Value, Vals xs its ∧ SAt kd s.heap a its.toArray ∧ xs.length ≤ sizeLine := by
  cases kd with
  | true =>
    obtain ⟨its, rv, p, hz⟩ := I.list h
    exact ⟨its, rv, p.isList, hz⟩
  | false =>
    obtain ⟨its, rv, p, hz⟩ := I.tuple h
    exact ⟨its, rv, p, hz⟩
theorem sq_inj {kd : Bool} (I : Inv X pins σ H s) (h : Sq kd X.K H a xs) (h' : Sq kd X.K H a ys) : xs = ys := by
  cases kd with
  | true => exact I.list_inj h h'
  | false => exact I.tuple_inj h h'
theorem SAt.lt {kd : Bool} {h : Heap} {its : Array Value} (x : SAt kd h a its) : a < h.objs.size := by
  cases kd with
  | true => obtain ⟨o, ho, _⟩ := x; exact Heap.lt_size ho
  | false => obtain ⟨o, ho, _⟩ := x; exact Heap.lt_size ho
end
def ItzQ (ka kb : Bool) (K : PySem.W.Frag) (a b : Addr) : It :=
  ⟨fun i H => ∃ (xs ys : List V) (x y : V), Sq ka K H a xs ∧ Sq kb K H b ys ∧ xs[i]? = some x ∧ ys[i]? = some y,
    fun i H v H' => ∃ T x y, v = .ref T ∧ H T = none ∧ H' = upd H T (.tup [x, y]) ∧ (∀ xs, Sq ka K H a xs → xs[i]? = some x) ∧ ∀ ys, Sq kb K H b ys → ys[i]? = some y,
    fun i H => ∃ xs ys : List V, Sq ka K H a xs ∧ Sq kb K H b ys ∧ i ≤ xs.length ∧ i ≤ ys.length ∧ (i = xs.length ∨ i = ys.length)⟩
theorem turn_zipQ {P : Program} {w : World} {K : PySem.W.Frag} {elts : List Expr} {kk : Nat} {tpos : Pos} {ka kb : Bool} {a b z TI TO i1 i2 : Addr} (D : ZipSep2 z TI TO i1 i2 [i1, a] [i2, b]) (na : a ≠ i1) (nb : b ≠ i2) :
    Turn P w K (.Tuple elts kk tpos) (ItzQ ka kb K a b) [z, TI, TO, i1, i2] z (fun i h => IsZip h z TI TO .none ∧ IsTupOf2 h TI (.ref i1) (.ref i2) ∧ (∃ x y, IsTupOf2 h TO x y) ∧ SIter ka h i1 a i ∧ SIter kb h i2 b i) where
  mem := by simp
  obj := fun i h st c hc => by
    obtain ⟨hz, hTI, ⟨x, y, hTO⟩, h1, h2⟩ := st
    have e' : c = z ∨ c = TI ∨ c = TO ∨ c = i1 ∨ c = i2 := by simpa using hc
    rcases e' with q | q | q | q | q
    · rw [q]; exact ⟨_, hz, fun v q => nomatch q⟩
    · rw [q]; exact ⟨_, hTI, fun v q => nomatch q⟩
    · rw [q]; exact ⟨_, hTO, fun v q => nomatch q⟩
    · rw [q]; exact h1.obj
    · rw [q]; exact h2.obj
  keep := fun i h h' st k => by
    obtain ⟨hz, hTI, ⟨x, y, hTO⟩, h1, h2⟩ := st
    exact ⟨k z (by simp) _ hz, k TI (by simp) _ hTI, ⟨x, y, k TO (by simp) _ hTO⟩, h1.at fun o q => k i1 (by simp) o q, h2.at fun o q => k i2 (by simp) o q⟩
  item := by
    intro X hP hw hK hc i pins s σ H E I hf st hg
    subst hP hw hK
    obtain ⟨hz, hTI, ⟨x0, y0, hTO⟩, h1, h2⟩ := st
    obtain ⟨xs, ys, x, y, hqx, hqy, hx, hy⟩ := hg
    obtain ⟨its, rv, p, _⟩ := sq_at I hqx
    obtain ⟨its2, rv2, p2, _⟩ := sq_at I hqy
    have hh : X.A.in1.handled = none := I.ok.hd hc
    have D1 := sdraws ka (prog := X.prog) (w := X.w) hh i1 a na its.toArray
    have D2 := sdraws kb (prog := X.prog) (w := X.w) hh i2 b nb its2.toArray
    obtain ⟨u, hu, ru⟩ := rv.get hx
    obtain ⟨u2, hu2, ru2⟩ := rv2.get hy
    have hzl : z < s.heap.objs.size := Heap.lt_size hz
    have l1 : i < its.toArray.size := by
      have := (List.getElem?_eq_some_iff.mp hu).1
      simpa using this
    have l2 : i < its2.toArray.size := by
      have := (List.getElem?_eq_some_iff.mp hu2).1
      simpa using this
    refine wpAny_pyNext_zipD2_item D D1 D2 hz hTI hTO ⟨h1, p⟩ ⟨h2, p2⟩ l1 l2 fun v1 v2 h' tk e1 e2 z' TO' h1' h2' hT hsz hk => ?_
    have e1' : u = v1 := by
      have q : its[i]? = some v1 := by simpa using e1
      rw [hu] at q; exact Option.some.inj q
    have e2' : u2 = v2 := by
      have q : its2[i]? = some v2 := by simpa using e2
      rw [hu2] at q; exact Option.some.inj q
    subst e1' e2'
    refine ⟨_, rfl, wpAny_letOwnedTupleGo_zip (s := { s with heap := h', toks := tk }) z' fun h'' z'' sb => ?_⟩
    have hT2 : h''.get? s.heap.objs.size = some { cls := .type "tuple", data := .seq #[u, u2] } := (sb.2 _ (Nat.ne_of_gt hzl)).trans hT
    have new : ObjOk X.prog X.w (upd H s.heap.objs.size (.tup [x, y])) h'' s.heap.objs.size (.tup [x, y]) :=
      ⟨by show 2 ≤ sizeLine; decide, [u, u2], .cons ru (.cons ru2 .nil), ⟨_, hT2, rfl, _, rfl⟩⟩
    have I1 : Inv X pins σ (upd H s.heap.objs.size (.tup [x, y])) { s with heap := h'', toks := tk } :=
      I.turnedNew (t' := tk) (ch := [z, TI, TO, i1, i2]) (fun c o hb q => (sb.2 c (fun q' => hb (by simp [q']))).trans (hk c o (fun q' => hb (by simp [q'])) (fun q' => hb (by simp [q'])) (fun q' => hb (by simp [q'])) (fun q' => hb (by simp [q'])) q)) hf (Nat.le_refl _) new
    refine ⟨.ref s.heap.objs.size, _, I1, rfl, ⟨_, x, y, rfl, I.hok.fresh (Nat.le_refl _), rfl, fun l hl => by rw [sq_inj I hl hqx]; exact hx, fun l hl => by rw [sq_inj I hl hqy]; exact hy⟩, ⟨z'', ?_, ⟨u, u2, ?_⟩, ?_, ?_⟩, fun c hcm => ?_⟩
    · exact (sb.2 _ D.TIz).trans (hk _ _ D.TIz D.TITO D.TIi1 D.TIi2 hTI)
    · exact (sb.2 _ D.TOz).trans TO'
    · exact h1'.1.at fun o q => (sb.2 _ D.zi1.symm).trans q
    · exact h2'.1.at fun o q => (sb.2 _ D.zi2.symm).trans q
    · have hlt : c < s.heap.objs.size := by
        have e' : c = z ∨ c = TI ∨ c = TO ∨ c = i1 ∨ c = i2 := by simpa using hcm
        rcases e' with q | q | q | q | q
        · rw [q]; exact hzl
        · rw [q]; exact Heap.lt_size hTI
        · rw [q]; exact Heap.lt_size hTO
        · rw [q]; obtain ⟨_, e1, _⟩ := h1.obj; exact Heap.lt_size e1
        · rw [q]; obtain ⟨_, e2, _⟩ := h2.obj; exact Heap.lt_size e2
      rw [upd_ne (Nat.ne_of_lt hlt)]
      exact (hf c hcm).1
  done := by
    intro X hP hw hK hc i pins s σ H E I hf st hg
    subst hP hw hK
    obtain ⟨hz, hTI, ⟨x0, y0, hTO⟩, h1, h2⟩ := st
    obtain ⟨xs, ys, hqx, hqy, le1, le2, hend⟩ := hg
    obtain ⟨its, rv, p, _⟩ := sq_at I hqx
    obtain ⟨its2, rv2, p2, _⟩ := sq_at I hqy
    have hh : X.A.in1.handled = none := I.ok.hd hc
    have D1 := sdraws ka (prog := X.prog) (w := X.w) hh i1 a na its.toArray
    have D2 := sdraws kb (prog := X.prog) (w := X.w) hh i2 b nb its2.toArray
    have l1 := rv.length
    have l2 := rv2.length
    have z1 : its.toArray.size = its.length := by simp
    have z2 : its2.toArray.size = its2.length := by simp
    exact wpAny_pyNext_zipD2_end D D1 D2 hz hTI hTO ⟨h1, p⟩ ⟨h2, p2⟩ (by omega) (by omega) (by omega) fun h' tk hk => ⟨rfl, I.turnedL (t' := tk) (ch := [z, TI, TO, i1, i2]) (fun c o hb q =>
      hk c o (fun q' => hb (by simp [q'])) (fun q' => hb (by simp [q'])) (fun q' => hb (by simp [q'])) (fun q' => hb (by simp [q'])) q) hf⟩
  self := fun A i s Q E st h => wpAny_pyIter_zip st.1 h
def iZipQ (K : PySem.W.Frag) (ta : TA) : TI := fun σ H R => ta σ H fun vs H1 => ∃ a b ka kb xs ys, vs = [.ref a, .ref b] ∧ Sq ka K H1 a xs ∧ Sq kb K H1 b ys ∧ R (ItzQ ka kb K a b) H1
theorem pi_zipQ {X : Cx} {e e2 : Expr} {ta : TA} {p pos tpos : Pos} {elts : List Expr} {kk : Nat} (hg : Gl X "zip") (hm : X.mg "zip" = none) (ha : PA X [e, e2] ta)
    (hs : starEach [e, e2] X.env = (false, eval e X.env) :: starEach [e2] X.env := by rfl) (hpl : (backTo pos (starEach [e2] X.env)).any (·.1) = false := by rfl) :
    PI X (.Tuple elts kk tpos) (.Call (.Name "zip" p) [e, e2] [] pos) (iZipQ X.K ta) := by
  refine ⟨fun pins s σ H R I h => ?_⟩
  refine Call_ (ld_blt I hg hm PyProof.Rows.boot_zip (PyProof.Rows.callWith_type1 (thn (ha.run pos pins s σ H _ I h) fun us s1 ⟨vs, H1, I1, r1, q1⟩ => ?_) hs hpl))
  obtain ⟨a, b, ka, kb, xs, ys, ex, hqx, hqy, q⟩ := q1
  subst ex
  cases r1 with
  | cons r rr =>
    cases rr with
    | cons r' rr =>
      cases rr
      cases r
      cases r'
      have fresh5 : ∀ c, c ∈ [s1.heap.objs.size + 4, s1.heap.objs.size + 2, s1.heap.objs.size + 3, s1.heap.objs.size, s1.heap.objs.size + 1] → FpOk X pins H1 c := fun c hcm => by
        have e' : c = s1.heap.objs.size + 4 ∨ c = s1.heap.objs.size + 2 ∨ c = s1.heap.objs.size + 3 ∨ c = s1.heap.objs.size ∨ c = s1.heap.objs.size + 1 := by simpa using hcm
        have hle : s1.heap.objs.size ≤ c := by
          rcases e' with z | z | z | z | z
          · rw [z]; exact Nat.le_add_right _ _
          · rw [z]; exact Nat.le_add_right _ _
          · rw [z]; exact Nat.le_add_right _ _
          · rw [z]; exact Nat.le_refl _
          · rw [z]; exact Nat.le_add_right _ _
        exact I1.fpOk hle (I1.hok.fresh hle)
      obtain ⟨its, rv, p1, _⟩ := sq_at I1 hqx
      obtain ⟨its2, rv2, p2, _⟩ := sq_at I1 hqy
      have la := p1.lt
      have lb := p2.lt
      refine zip_begins2 (sbegins ka a its.toArray) (sbegins kb b its2.toArray) p1 p2 fun h' hz hTI hTO h1 h2 hsz hk => wpAny_pyIter_zip hz ?_
      have I2 : Inv X pins σ H1 { s1 with heap := h' } := I1.kept (t' := s1.toks) hk
      have one : ∀ {c d : Addr}, d < s1.heap.objs.size → c ∈ [d] → c < s1.heap.objs.size := fun {c d} hd hc => by
        have e : c = d := by simpa using hc
        rw [e]; exact hd
      exact ⟨s1.heap.objs.size + 4, [s1.heap.objs.size + 4, s1.heap.objs.size + 2, s1.heap.objs.size + 3, s1.heap.objs.size, s1.heap.objs.size + 1], _, _, H1, rfl, I2, turn_zipQ (zip_sep2 (fun c hc => one la hc) (fun c hc => one lb hc)) (Nat.ne_of_lt la) (Nat.ne_of_lt (Nat.lt_succ_of_lt lb)), ⟨hz, hTI, ⟨_, _, hTO⟩, siter0 h1, siter0 h2⟩, fresh5, q⟩
theorem walk_zipQ {K : PySem.W.Frag} {ka kb : Bool} {a b : Addr} {xs ys : List V} {n : Nat} (hn : n = min xs.length ys.length) : Walk (ItzQ ka kb K a b) n (fun H => Sq ka K H a xs ∧ Sq kb K H b ys) (YPair (fun i => xs[i]?) (fun i => ys[i]?)) :=
  ⟨fun i H hi ⟨h1, h2⟩ => ⟨xs, ys, _, _, h1, h2, List.getElem?_eq_getElem (by omega), List.getElem?_eq_getElem (by omega)⟩, fun H ⟨h1, h2⟩ => ⟨xs, ys, h1, h2, by omega, by omega, by omega⟩,
    fun i H x H' hi ⟨h1, h2⟩ ⟨T, u, v, e1, e2, e3, e4, e5⟩ => ⟨T, u, v, e1, e2, e3, e4 _ h1, e5 _ h2⟩⟩
def ItQ (kd : Bool) (K : PySem.W.Frag) (a : Addr) : It := match kd with
  | true => Itl K a
  | false => Itt K a
def iSeq (K : PySem.W.Frag) (te : TE) : TI := fun σ H R => te σ H fun v H1 => ∃ a kd xs, v = .ref a ∧ Sq kd K H1 a xs ∧ R (ItQ kd K a) H1
theorem pi_seq {X : Cx} {tg l : Expr} {tl : TE} (hl : PE X l tl) : PI X tg l (iSeq X.K tl) := by
  refine ⟨fun pins s σ H R I h => ?_⟩
  refine thn (hl.run pins s σ H _ I h) fun v s1 ⟨x, H1, I1, r1, q1⟩ => ?_
  obtain ⟨a, kd, xs, e, hq, q⟩ := q1
  subst e
  cases r1
  cases kd with
  | true =>
    obtain ⟨its, rv, p, hz⟩ := I1.list hq
    refine wpAny_pyIter_list p.isList ?_
    refine ⟨s1.heap.objs.size, [s1.heap.objs.size], _, _, H1, rfl, I1.kept (t' := s1.toks) fun b o e => Heap.get?_push_of_some _ e, turn_list a _, ⟨_, Heap.get?_push_size _ rfl, rfl, rfl⟩, fun b hb => ?_, q⟩
    have e : b = s1.heap.objs.size := by simpa using hb
    subst e
    exact I1.fpOk (Nat.le_refl _) (I1.hok.fresh (Nat.le_refl _))
  | false =>
    obtain ⟨its, rv, p, hz⟩ := I1.tuple hq
    refine wpAny_pyIter_tuple (show s1.heap.IsTuple a its.toArray from p) ?_
    refine ⟨s1.heap.objs.size, [s1.heap.objs.size], _, _, H1, rfl, I1.kept (t' := s1.toks) fun b o e => Heap.get?_push_of_some _ e, turn_tuple a _, ⟨_, Heap.get?_push_size _ rfl, rfl, rfl⟩, fun b hb => ?_, q⟩
    have e : b = s1.heap.objs.size := by simpa using hb
    subst e
    exact I1.fpOk (Nat.le_refl _) (I1.hok.fresh (Nat.le_refl _))
theorem walk_seq {K : PySem.W.Frag} {kd : Bool} {a : Addr} {xs : List V} : Walk (ItQ kd K a) xs.length (fun H => Sq kd K H a xs) (YAt xs) := by
  cases kd with
  | true => exact walk_list
  | false => exact walk_tup
def IteQ (kd : Bool) (K : PySem.W.Frag) (a : Addr) : It :=
  ⟨fun i H => ∃ xs x, Sq kd K H a xs ∧ xs[i]? = some x,
    fun i H v H' => ∃ T x, v = .ref T ∧ H T = none ∧ H' = upd H T (.tup [.int (i : Nat), x]) ∧ ∀ xs, Sq kd K H a xs → xs[i]? = some x,
    fun i H => ∃ xs, Sq kd K H a xs ∧ i = xs.length⟩
theorem turn_enumQ {P : Program} {w : World} {K : PySem.W.Frag} {elts : List Expr} {kk : Nat} {tpos : Pos} {kd : Bool} {a e it : Addr} (na : a ≠ it) (nae : e ≠ a) :
    Turn P w K (.Tuple elts kk tpos) (IteQ kd K a) [e, it] e (fun i h => (∃ old, IsEnum h e it ((i : Nat) : Int) old) ∧ SIter kd h it a i ∧ e ≠ it) where
  mem := by simp
  obj := fun i h st b hb => by
    obtain ⟨⟨old, he⟩, hi, _⟩ := st
    have e' : b = e ∨ b = it := by simpa using hb
    rcases e' with z | z
    · rw [z]; exact ⟨_, he, fun v q => nomatch q⟩
    · rw [z]; exact hi.obj
  keep := fun i h h' st k => let ⟨⟨old, he⟩, hi, hne⟩ := st; ⟨⟨old, k e (by simp) _ he⟩, hi.at fun o q => k it (by simp) o q, hne⟩
  item := by
    intro X hP hw hK hc i pins s σ H E I hf st hg
    subst hP hw hK
    obtain ⟨⟨old, he⟩, hit, hne⟩ := st
    obtain ⟨xs, x, hq, hx⟩ := hg
    obtain ⟨its, rv, p, hz⟩ := sq_at I hq
    obtain ⟨u, hu, ru⟩ := rv.get hx
    have hh : X.A.in1.handled = none := I.ok.hd hc
    have D := sdraws kd (prog := X.prog) (w := X.w) hh it a na its.toArray
    have hel : e < s.heap.objs.size := Heap.lt_size he
    have hil : it < s.heap.objs.size := by obtain ⟨_, q, _⟩ := hit.obj; exact Heap.lt_size q
    have l1 : i < its.toArray.size := by
      have := (List.getElem?_eq_some_iff.mp hu).1
      simpa using this
    refine wpAny_pyNext_enum_itemD D he ⟨hit, p⟩ l1 hne (by simp [hne, nae]) fun v h' tk e1 ho hit' hT hsz hk => ?_
    have e1' : u = v := by
      have q : its[i]? = some v := by simpa using e1
      rw [hu] at q; exact Option.some.inj q
    subst e1'
    refine ⟨_, rfl, wpAny_letOwnedTupleGo_enum (s := { s with heap := h', toks := tk + 1 }) ho fun h'' he' sb => ?_⟩
    have hT2 : h''.get? s.heap.objs.size = some { cls := .type "tuple", data := .seq #[.int i tk, u] } := (sb.2 _ (Nat.ne_of_gt hel)).trans hT
    have new : ObjOk X.prog X.w (upd H s.heap.objs.size (.tup [.int (i : Nat), x])) h'' s.heap.objs.size (.tup [.int (i : Nat), x]) :=
      ⟨by show 2 ≤ sizeLine; decide, [.int i tk, u], .cons ⟨_, rfl⟩ (.cons ru .nil), ⟨_, hT2, rfl, _, rfl⟩⟩
    have I1 : Inv X pins σ (upd H s.heap.objs.size (.tup [.int (i : Nat), x])) { s with heap := h'', toks := tk + 1 } :=
      I.turnedNew (ch := [e, it]) (fun b ob hb q => (sb.2 b (fun z => hb (by simp [z]))).trans (hk b ob (fun z => hb (by simp [z])) (fun z => hb (by simp [z])) q)) hf (Nat.le_refl _) new
    refine ⟨.ref s.heap.objs.size, _, I1, rfl, ⟨_, x, rfl, I.hok.fresh (Nat.le_refl _), rfl, fun ys hy => by rw [sq_inj I hy hq]; exact hx⟩, ⟨⟨u, ?_⟩, hit'.1.at fun o q => (sb.2 it (Ne.symm hne)).trans q, hne⟩, fun b hb => ?_⟩
    · have e1 : ((i + 1 : Nat) : Int) = (i : Int) + 1 := by omega
      rw [e1]; exact he'
    · have hb' : b < s.heap.objs.size := by
        have e' : b = e ∨ b = it := by simpa using hb
        rcases e' with z | z
        · rw [z]; exact hel
        · rw [z]; exact hil
      rw [upd_ne (Nat.ne_of_lt hb')]
      exact (hf b hb).1
  done := by
    intro X hP hw hK hc i pins s σ H E I hf st hg
    subst hP hw hK
    obtain ⟨⟨old, he⟩, hit, hne⟩ := st
    obtain ⟨xs, hq, hx⟩ := hg
    obtain ⟨its, rv, p, hz⟩ := sq_at I hq
    have hh : X.A.in1.handled = none := I.ok.hd hc
    have D := sdraws kd (prog := X.prog) (w := X.w) hh it a na its.toArray
    obtain ⟨f0, f1, f2, f3, f4, f5⟩ := hf it (by simp)
    have hl := rv.length
    have ei : i = its.toArray.size := by simp; omega
    subst ei
    exact wpAny_pyNext_enum_endD D he ⟨hit, p⟩ fun h' eb => ⟨rfl, I.turned (t' := s.toks) (fun b o hb q => eb b o hb q) f0 f1 f3 f4 f5⟩
  self := fun A i s Q E st h => let ⟨⟨_, he⟩, _⟩ := st; wpAny_pyIter_enum he h
theorem meets_enumerate_newB1 {v : Value} {o : Obj} {H : Heap → Prop} (B : Begins v o H) :
    Meets (Builtin.«enumerate.__new__» ⟨[.type "enumerate", v], []⟩) (fun _ R s => H s.heap ∧
      R (.ok (.ret (.ref (s.heap.push o).objs.size))) { s with heap := (s.heap.push o).push { cls := .type "enumerate", data := .fields #[.none, .bool false, .ref s.heap.objs.size, rawInt 0, .none, .none] } }) :=
  .of_wp fun prog w A R s h => by
    obtain ⟨hp, g, d, tk, os⟩ := s; obtain ⟨h1, h⟩ := h
    have hsub := sub_enumerate
    have q1 : ∀ {A' : Around} {E : Value → Shared → Prop} {Q : Value → Shared → Prop}, Q (.ref hp.objs.size) ⟨hp.push o, g, d, tk, os⟩ → wpAny (model prog w) A' (pyIter v) Q E ⟨hp, g, d, tk, os⟩ :=
      fun q => B.iter prog w _ _ ⟨hp, g, d, tk, os⟩ _ h1 q
    wp_walk using q1
    refine wpAny_stack_any fun st => wpAny_pure ?_
    split
    · rename_i c _ _ _ _ _
      cases (c == Value.type "enumerate")
      · wp_walk using q1
        exact ⟨_, rfl, h⟩
      · wp_walk using q1
        exact ⟨_, rfl, h⟩
    · wp_walk using q1
      exact ⟨_, rfl, h⟩
theorem enum_begins1 {prog : Program} {w : World} {A : Around} {E : Value → Shared → Prop} {s : Shared} {v : Value} {o : Obj} {H : Heap → Prop} {Q : Value → Shared → Prop} (B : Begins v o H) (h1 : H s.heap)
    (h : ∀ h', IsEnum h' (s.heap.objs.size + 1) s.heap.objs.size 0 .none → h'.get? s.heap.objs.size = some o → h'.objs.size = s.heap.objs.size + 2 →
      (∀ b o, s.heap.get? b = some o → h'.get? b = some o) → Q (.ref (s.heap.objs.size + 1)) { s with heap := h' }) :
    wpAny (model prog w) A (call (.type "enumerate") [v]) Q E s := by
  refine callType_new F.called_enumerate (by decide) (F.typeCall_enumerate_1 _) (F.newCall_enumerate_1 _) (fun obj => F.args_object_init_2 obj _) F.entry_enumerate_new
    (meets_enumerate_newB1 B) ⟨h1, ?_⟩
  have hz : (s.heap.push o).objs.size = s.heap.objs.size + 1 := Heap.size_push ..
  show _ ∧ _
  rw [hz]
  have he : IsEnum ((s.heap.push o).push { cls := .type "enumerate", data := .fields #[.none, .bool false, .ref s.heap.objs.size, rawInt 0, .none, .none] }) (s.heap.objs.size + 1) s.heap.objs.size 0 .none := by
    have := Heap.get?_push_size (s.heap.push o) (o := { cls := .type "enumerate", data := .fields #[.none, .bool false, .ref s.heap.objs.size, rawInt 0, .none, .none] }) rfl
    rw [hz] at this; exact this
  refine ⟨⟨_, he, rfl⟩, h _ he (Heap.get?_push_of_some _ (Heap.get?_push_size _ B.free)) (by rw [Heap.size_push, hz]) fun b o x => Heap.get?_push_of_some _ (Heap.get?_push_of_some _ x)⟩
def iEnumQ (K : PySem.W.Frag) (ta : TA) : TI := fun σ H R => ta σ H fun vs H1 => ∃ a kd xs, vs = [.ref a] ∧ Sq kd K H1 a xs ∧ R (IteQ kd K a) H1
theorem pi_enumQ {X : Cx} {e : Expr} {ta : TA} {p pos tpos : Pos} {elts : List Expr} {kk : Nat} (hg : Gl X "enumerate") (hm : X.mg "enumerate" = none) (ha : PA X [e] ta) (hs : starEach [e] X.env = [(false, eval e X.env)] := by rfl) :
    PI X (.Tuple elts kk tpos) (.Call (.Name "enumerate" p) [e] [] pos) (iEnumQ X.K ta) := by
  refine ⟨fun pins s σ H R I h => ?_⟩
  refine Call_ (ld_blt I hg hm boot_enumerate (PyProof.Rows.callWith_type1 (thn (ha.run pos pins s σ H _ I h) fun us s1 ⟨vs, H1, I1, r1, q1⟩ => ?_) hs rfl))
  obtain ⟨a, kd, xs, ex, hq, q⟩ := q1
  subst ex
  cases r1 with
  | cons r rr =>
    cases rr
    cases r
    obtain ⟨its, rv, p', hz⟩ := sq_at I1 hq
    have la := p'.lt
    refine enum_begins1 (sbegins kd a its.toArray) p' fun h' he hit hsz hk => wpAny_pyIter_enum he ?_
    have I2 : Inv X pins σ H1 { s1 with heap := h' } := I1.kept (t' := s1.toks) hk
    refine ⟨s1.heap.objs.size + 1, [s1.heap.objs.size + 1, s1.heap.objs.size], _, _, H1, rfl, I2, turn_enumQ (Nat.ne_of_lt la) (Nat.ne_of_gt (Nat.lt_succ_of_lt la)), ⟨⟨.none, he⟩, siter0 hit, Nat.succ_ne_self _⟩, fun b hb => ?_, q⟩
    have e' : b = s1.heap.objs.size + 1 ∨ b = s1.heap.objs.size := by simpa using hb
    have hle : s1.heap.objs.size ≤ b := by
      rcases e' with z | z
      · rw [z]; exact Nat.le_add_right _ _
      · rw [z]; exact Nat.le_refl _
    exact I1.fpOk hle (I1.hok.fresh hle)
theorem walk_enumQ {K : PySem.W.Frag} {kd : Bool} {a : Addr} {xs : List V} : Walk (IteQ kd K a) xs.length (fun H => Sq kd K H a xs) (YPair (fun i => some (.int (i : Nat))) (fun i => xs[i]?)) :=
  ⟨fun i H hi h1 => ⟨xs, _, h1, List.getElem?_eq_getElem hi⟩, fun H h1 => ⟨xs, h1, rfl⟩,
    fun i H x H' hi h1 ⟨T, u, e1, e2, e3, e4⟩ => ⟨T, _, u, e1, e2, e3, rfl, e4 _ h1⟩⟩
end Ft
set_option Elab.async false
set_option linter.all false
set_option maxRecDepth 100000
set_option maxHeartbeats 4000000
namespace Ft
open PySem PySem.Spec PyProof.Rows L2
/-- the built-in names that the text uses are the built-ins -/
structure Bl (mg : Str → Option Value) : Prop where
  int : mg "int" = none
  len : mg "len" = none
  range : mg "range" = none
  isinstance : mg "isinstance" = none
  tuple : mg "tuple" = none
  list : mg "list" = none
  dict : mg "dict" = none
  str : mg "str" = none
  bool : mg "bool" = none
  sorted : mg "sorted" = none
  zip : mg "zip" = none
  enumerate : mg "enumerate" = none
  all : mg "all" = none
  max : mg "max" = none
  min : mg "min" = none
  sum : mg "sum" = none
  any : mg "any" = none
/-- a def of the module that keeps its promise -/
structure Own (P : Program) (w : World) (K : PySem.W.Frag) (mg : Str → Option Value) (base : Heap) (k : Nat) (x : Str) (ps : List Str) (sp : Sp) : Prop where
  ex : ∃ (f : Addr) (fd : FuncData), FnOk P w K mg base CX0 k f fd ps sp ∧ mg x = some (.ref f) ∧ PySem.W.keepIn K (.ref f) = true ∧ Binds K fd ps []
theorem Own.mono {P : Program} {w : World} {K : PySem.W.Frag} {mg : Str → Option Value} {base : Heap} {j k : Nat} {x : Str} {ps : List Str} {sp : Sp} (G : Own P w K mg base j x ps sp) (h : j ≤ k) : Own P w K mg base k x ps sp := by
  obtain ⟨f, fd, F, r⟩ := G.ex
  exact ⟨f, fd, F.mono h, r⟩
theorem Own.imp {P : Program} {w : World} {K : PySem.W.Frag} {mg : Str → Option Value} {base : Heap} {k : Nat} {x : Str} {ps : List Str} {sp sp' : Sp} (G : Own P w K mg base k x ps sp) (h : ∀ vs H Q E, sp' vs H Q E → sp vs H Q E) : Own P w K mg base k x ps sp' := by
  obtain ⟨f, fd, F, r⟩ := G.ex
  exact ⟨f, fd, F.imp h, r⟩
section
variable {X : Cx}
theorem pe_own {e : Expr} {es : List Expr} {t : TA} {p pos : Pos} {k : Nat} {x : Str} {ps : List Str} {sp : Sp} (G : Own X.prog X.w X.K X.mg X.base k x ps sp) (hr : Room k X.A) (hg : Gl X x) (ha : PA X (e :: es) t)
    (hdb : (x == ("__debug__" : Str)) = false := by decide) (he : starEach (e :: es) X.env = (false, eval e X.env) :: starEach es X.env := by rfl) (hpl : (backTo pos (starEach es X.env)).any (·.1) = false := by rfl) :
    PE X (.Call (.Name x p) (e :: es) [] pos) (tCall sp [] E0 t) := by
  obtain ⟨f, fd, F, m, kp, b⟩ := G.ex
  exact pe_call F hr hg m kp b .nil pass0 ha hdb he hpl
end
/-- a statement, then the rest, with a word between them -/
def tCut (t u : TS) : TS := fun D σ H => ∃ Mid : L2.St → Hp → Prop, t { D with nx := Mid } σ H ∧ ∀ σ' H', Mid σ' H' → u D σ' H'
theorem pss_cut {X : Cx} {st : Stmt} {rest : List Stmt} {t u : TS} (h1 : PS X st t) (h2 : PSs X rest u) : PSs X (st :: rest) (tCut t u) := by
  refine ⟨fun pins s σ H D I h => ?_⟩
  obtain ⟨Mid, hm, hu⟩ := h
  refine wpAny_execs_cons (thn (h1.run pins s σ H { D with nx := Mid } I hm) fun f s1 q => ?_)
  cases f with
  | next =>
    obtain ⟨σ', H', I', q⟩ := q
    exact h2.run pins s1 σ' H' D I' (hu σ' H' q)
  | ret v => exact q
  | brk => exact q
  | cont => exact q
/-- an expression with a word behind it -/
def tMid (t : TE) : TE := fun σ H Q => ∃ Mid : V → Hp → Prop, t σ H Mid ∧ ∀ v H', Mid v H' → Q v H'
theorem pe_mid {X : Cx} {e : Expr} {t : TE} (h : PE X e t) : PE X e (tMid t) := by
  refine ⟨fun pins s σ H Q I q => ?_⟩
  obtain ⟨Mid, hm, hu⟩ := q
  refine thn (h.run pins s σ H _ I hm) fun v s1 ⟨x, H1, I1, r1, q1⟩ => ?_
  exact ⟨x, H1, I1, r1, hu _ _ q1⟩
def tMidT (t : TT) : TT := fun σ H Q => ∃ Mid : Bool → Hp → Prop, t σ H Mid ∧ ∀ v H', Mid v H' → Q v H'
theorem pt_mid {X : Cx} {e : Expr} {t : TT} (h : PT X e t) : PT X e (tMidT t) := by
  refine ⟨fun pins s σ H Q I q => ?_⟩
  obtain ⟨Mid, hm, hu⟩ := q
  refine thn (h.run pins s σ H _ I hm) fun v s1 ⟨H1, I1, q1⟩ => ?_
  exact ⟨H1, I1, hu _ _ q1⟩
theorem own_mk {P : Program} {w : World} {K : PySem.W.Frag} {mg : Str → Option Value} {base : Heap} {x : Str} {st : Stmt} {f : Addr} {fd : FuncData} {k : Nat} {ps : List Str} {sp : Sp} (F : Fun K x x st f fd) (m : mg x = some (.ref f)) (b : Binds K fd ps []) (ok : FnOk P w K mg base CX0 k f fd ps sp) : Own P w K mg base k x ps sp :=
  ⟨f, fd, ok, m, F.kp, b⟩
theorem fn_false {P : Program} {w : World} {K : PySem.W.Frag} {mg : Str → Option Value} {base : Heap} {f : Addr} {fd : FuncData} {k : Nat} {ps : List Str} : FnOk P w K mg base CX0 k f fd ps (fun _ _ _ _ => False) :=
  ⟨fun _ _ _ _ h => h.elim, fun _ _ _ _ _ _ _ _ _ _ _ _ _ h => h.elim⟩
theorem ixK {X : Cx} {K : PySem.W.Frag} (r : PySem.W.Frag → R2) (h : IxR X (r X.K)) (e : X.K = K) : IxR X (r K) := by subst e; exact h
theorem opK {X : Cx} {K : PySem.W.Frag} {f : Value → Value → Sem Value} (r : PySem.W.Frag → R2) (h : OpR X f (r X.K)) (e : X.K = K) : OpR X f (r K) := by subst e; exact h
theorem callK {X : Cx} {K : PySem.W.Frag} {f : Value} (r : PySem.W.Frag → List V → Hp → VK → Prop) (h : CallR X f (r X.K)) (e : X.K = K) : CallR X f (r K) := by subst e; exact h
def Fr (ok : Addr → Prop) (H H' : Hp) : Prop := ∀ b o, ok b → H b = some o → H' b = some o
theorem Fr.refl {ok : Addr → Prop} {H : Hp} : Fr ok H H := fun _ _ _ h => h
theorem Fr.trans {ok : Addr → Prop} {H H1 H2 : Hp} (a : Fr ok H H1) (b : Fr ok H1 H2) : Fr ok H H2 := fun c o k h => b c o k (a c o k h)
theorem Fr.new {ok : Addr → Prop} {H : Hp} {p : Addr} {o : HO} (h : H p = none) : Fr ok H (upd H p o) := fun b u _ e => by
  rw [upd_ne (ne_of_none e h)]; exact e
theorem Fr.put {ok : Addr → Prop} {H : Hp} {p : Addr} {o : HO} (h : ¬ ok p) : Fr ok H (upd H p o) := fun b u k e => by
  rw [upd_ne (show b ≠ p from fun z => h (by rw [← z]; exact k))]; exact e
theorem Fr.mono {ok ok' : Addr → Prop} {H H' : Hp} (a : Fr ok H H') (h : ∀ b, ok' b → ok b) : Fr ok' H H' := fun b o k e => a b o (h b k) e
theorem Fr.same {ok : Addr → Prop} {H H' : Hp} (a : Same H H') : Fr ok H H' := fun b o _ e => a b o e
theorem Fr.free {H H' : Hp} {ok : Addr → Prop} (e : Fr ok H H') {l : Addr} (k : ok l) (h : H' l = none) : H l = none := by
  cases q : H l with
  | none => rfl
  | some o => rw [e l o k q] at h; cases h
theorem Fr.upN {ok : Addr → Prop} {G H : Hp} {p : Addr} {o : HO} (a : Fr ok G H) (h : G p = none) : Fr ok G (upd H p o) := fun b u k e => by
  rw [upd_ne (ne_of_none e h)]; exact a b u k e
theorem Same.upN {G H : Hp} {p : Addr} {o : HO} (a : Same G H) (h : G p = none) : Same G (upd H p o) := fun b u e => by
  rw [upd_ne (ne_of_none e h)]; exact a b u e
theorem Fr.freeD {H H' : Hp} {a l : Addr} (e : Fr (· ≠ a) H H') {o : HO} (ha : H' a = some o) (h : H' l = none) : H l = none :=
  e.free (show l ≠ a from fun z => by rw [z, ha] at h; cases h) h
theorem Same.new {H : Hp} {p : Addr} {o : HO} (h : H p = none) : Same H (upd H p o) := fun b u e => by
  rw [upd_ne (ne_of_none e h)]; exact e
def mkO (kd : Bool) (xs : List V) : HO := match kd with
  | true => .lst xs
  | false => .tup xs
theorem sq_of {kd : Bool} {K : PySem.W.Frag} {H : Hp} {a : Addr} {xs : List V} (h : H a = some (mkO kd xs)) : Sq kd K H a xs := by
  cases kd with
  | true => exact SqL.of h
  | false => exact SqT.of h
theorem sqa_of {kd : Bool} {K : PySem.W.Frag} {H : Hp} {a : Addr} {xs : List V} (h : Sq kd K H a xs) : SqL K H a xs ∨ SqT K H a xs := by
  cases kd with
  | true => exact .inl h
  | false => exact .inr h
theorem small {n : Nat} (h : n ≤ 1000000) : n < sizeLine := Nat.lt_of_le_of_lt h (by decide)
theorem smallE {n : Nat} (h : n ≤ 1000000) : n ≤ sizeLine := Nat.le_of_lt (small h)
theorem big {n : Nat} (h : n ≤ 16000000) : n < sizeLine := Nat.lt_of_le_of_lt h (by decide)
theorem bigE {n : Nat} (h : n ≤ 16000000) : n ≤ sizeLine := Nat.le_of_lt (big h)
/-- at a there is a source whose count is n; what may change is the first number and the count -/
def Src (H : Hp) (a : Addr) (n : Int) : Prop := ∃ d s, H a = some (.lst [.int d, .int s, .int n]) ∧ 0 ≤ s ∧ s < 2 ^ 40 ∧ 0 ≤ n
theorem Src.new {H : Hp} {a p : Addr} {n : Int} {o : HO} (x : Src H a n) (h : H p = none) : Src (upd H p o) a n := by
  obtain ⟨d, s, e, r⟩ := x
  exact ⟨d, s, by rw [upd_ne (ne_of_none e h)]; exact e, r⟩
theorem Src.ne {H : Hp} {a p : Addr} {n : Int} {o : HO} (x : Src H a n) (h : a ≠ p) : Src (upd H p o) a n := by
  obtain ⟨d, s, e, r⟩ := x
  exact ⟨d, s, by rw [upd_ne h]; exact e, r⟩
theorem Src.fr {H H' : Hp} {a : Addr} {n : Int} {ok : Addr → Prop} (x : Src H a n) (f : Fr ok H H') (k : ok a) : Src H' a n := by
  obtain ⟨d, s, e, r⟩ := x
  exact ⟨d, s, f _ _ k e, r⟩
theorem Src.is {H : Hp} {a : Addr} {n : Int} (x : Src H a n) : ∃ o, H a = some o := by
  obtain ⟨d, s, e, r⟩ := x
  exact ⟨_, e⟩
theorem Src.nn {H : Hp} {a p : Addr} {n : Int} (x : Src H a n) (h : H p = none) : p ≠ a := by
  obtain ⟨d, s, e, r⟩ := x
  exact (ne_of_none e h).symm
theorem getD_mem {xs : List V} {k : Int} (h0 : 0 ≤ k) (h1 : k < (xs.length : Int)) : ∃ x, atI xs k = some x ∧ x ∈ xs := by
  have hk : k.toNat < xs.length := by omega
  obtain ⟨j, rfl⟩ : ∃ j : Nat, k = (j : Int) := ⟨k.toNat, by omega⟩
  exact ⟨xs[j], atI_nat (List.getElem?_eq_getElem (by omega)), List.getElem_mem _⟩
end Ft
set_option Elab.async false
set_option linter.all false
set_option maxRecDepth 100000
set_option maxHeartbeats 4000000
namespace Ft
open PySem L2
def topS (i : Nat) : Stmt := PySem.Challenge.pw_firsttouch_k12_whole_texts_spoilt.main.body.getD i (.Pass ⟨0, 0, 0, 0⟩)
end Ft
set_option Elab.async false
set_option linter.all false
set_option maxRecDepth 100000
set_option maxHeartbeats 4000000
namespace Ft
open PySem L2
/-- a word: one to eight small letters -/
def isW (z : Str) : Bool := decide (1 ≤ z.length) && (decide (z.length ≤ 8) && z.cps.toList.all fun c => decide (97 ≤ c) && decide (c ≤ 122))
theorem inV_iff {z : Str} : ∀ {ws : List Str}, inV (.str z) (ws.map V.str) = decide (z ∈ ws)
  | [] => rfl
  | y :: ws => by
    show (eqV (.str y) (.str z) || inV (.str z) (ws.map V.str)) = _
    rw [inV_iff (ws := ws)]
    show ((y == z) || decide (z ∈ ws)) = _
    by_cases e : z = y
    · subst e; simp
    · have e' : ¬ y = z := fun h => e h.symm
      simp [e, e']
end Ft
set_option Elab.async false
set_option linter.all false
set_option maxRecDepth 100000
set_option maxHeartbeats 4000000
namespace Ft
open PySem L2
inductive Row where
  | plain (w : Str) (fs : List V)
  | make (n : Str) (b : List Row)
  | when (n : Str) (b c : List Row)
  | try_ (b c : List Row)
/-- what stands behind the word of a row without blocks: true: a word, false: a number -/
def plainT : List (Str × List Bool) := [("load", [true, true]), ("pick", [true, true, true]), ("put", [true, false]), ("copy", [true, true]), ("part", [true, true, true]), ("drop", [true]), ("say", [false]), ("tell", [true]), ("seen", [true, true]), ("fail", [false]), ("call", [true])]
def fldOk : Bool → V → Bool
  | true, .str z => isW z
  | false, .int i => decide (-999 ≤ i) && decide (i ≤ 999)
  | _, _ => false
def plainOk (wi : Bool) (w : Str) (fs : List V) : Prop := ∃ ks, (w, ks) ∈ plainT ∧ Paired (fun k v => fldOk k v = true) ks fs ∧ (wi = true → w ≠ "call")
/-- blocks of at most m rows -/
def RowB (m : Nat) : Nat → Bool → Row → Prop
  | _, wi, .plain w fs => plainOk wi w fs
  | d + 1, wi, .make n b => wi = false ∧ isW n = true ∧ b.length ≤ m ∧ ∀ r ∈ b, RowB m d true r
  | d + 1, wi, .when n b c => isW n = true ∧ b.length ≤ m ∧ c.length ≤ m ∧ (∀ r ∈ b, RowB m d wi r) ∧ ∀ r ∈ c, RowB m d wi r
  | d + 1, wi, .try_ b c => b.length ≤ m ∧ c.length ≤ m ∧ (∀ r ∈ b, RowB m d wi r) ∧ ∀ r ∈ c, RowB m d wi r
  | 0, _, _ => False
abbrev RowOk (d : Nat) (wi : Bool) (r : Row) : Prop := RowB 24 d wi r
abbrev RowO8 (d : Nat) (wi : Bool) (r : Row) : Prop := RowB 8 d wi r
theorem RowB.up {m m' : Nat} (hm : m ≤ m') : ∀ {d : Nat} {wi : Bool} {r : Row}, RowB m d wi r → RowB m' d wi r := by
  intro d
  induction d with
  | zero =>
    intro wi r h
    cases r with
    | plain w fs => exact h
    | _ => exact h.elim
  | succ d ih =>
    intro wi r h
    cases r with
    | plain w fs => exact h
    | make n b => exact ⟨h.1, h.2.1, Nat.le_trans h.2.2.1 hm, fun r hr => ih (h.2.2.2 r hr)⟩
    | when n b c => exact ⟨h.1, Nat.le_trans h.2.1 hm, Nat.le_trans h.2.2.1 hm, fun r hr => ih (h.2.2.2.1 r hr), fun r hr => ih (h.2.2.2.2 r hr)⟩
    | try_ b c => exact ⟨Nat.le_trans h.1 hm, Nat.le_trans h.2.1 hm, fun r hr => ih (h.2.2.1 r hr), fun r hr => ih (h.2.2.2 r hr)⟩
theorem RowB.ok {d : Nat} {wi : Bool} {r : Row} (h : RowO8 d wi r) : RowOk d wi r := h.up (by decide)
/-- a sequence of kinds kk at an ok place -/
def At (ok : Addr → Prop) (kk : Bool → Prop) (H : Hp) (v : V) (xs : List V) : Prop := ∃ a kd, v = .ref a ∧ ok a ∧ kk kd ∧ H a = some (mkO kd xs)
def RowAt (ok : Addr → Prop) (kk : Bool → Bool → Prop) (H : Hp) : Nat → V → Row → Prop
  | _, v, .plain w fs => At ok (kk false) H v (.str w :: fs)
  | d + 1, v, .make n b => ∃ vb xs, At ok (kk false) H v [.str "make", .str n, vb] ∧ At ok (kk true) H vb xs ∧ Paired (RowAt ok kk H d) xs b
  | d + 1, v, .when n b c => ∃ vb xs vc ys, At ok (kk false) H v [.str "when", .str n, vb, vc] ∧ At ok (kk true) H vb xs ∧ Paired (RowAt ok kk H d) xs b ∧ At ok (kk true) H vc ys ∧ Paired (RowAt ok kk H d) ys c
  | d + 1, v, .try_ b c => ∃ vb xs vc ys, At ok (kk false) H v [.str "try", vb, vc] ∧ At ok (kk true) H vb xs ∧ Paired (RowAt ok kk H d) xs b ∧ At ok (kk true) H vc ys ∧ Paired (RowAt ok kk H d) ys c
  | 0, _, _ => False
/-- rows of a block or module -/
def RowsAt (ok : Addr → Prop) (kk : Bool → Bool → Prop) (H : Hp) (d : Nat) (v : V) (rs : List Row) : Prop := ∃ xs, At ok (kk true) H v xs ∧ Paired (RowAt ok kk H d) xs rs
/-- what may be read at ok places is kept, and the places are ok' -/
def Keep (ok ok' : Addr → Prop) (H H' : Hp) : Prop := ∀ x kd xs, ok x → H x = some (mkO kd xs) → ok' x ∧ H' x = some (mkO kd xs)
theorem Keep.trans {o1 o2 o3 : Addr → Prop} {H1 H2 H3 : Hp} (a : Keep o1 o2 H1 H2) (b : Keep o2 o3 H2 H3) : Keep o1 o3 H1 H3 := fun x kd xs k h => by
  obtain ⟨k2, h2⟩ := a x kd xs k h
  exact b x kd xs k2 h2
theorem Keep.fr {ok ok' : Addr → Prop} {H H' : Hp} (f : Fr ok H H') (h : ∀ x, ok x → ok' x) : Keep ok ok' H H' := fun x kd xs k e => ⟨h x k, f _ _ k e⟩
theorem Keep.new {ok : Addr → Prop} {H : Hp} {p : Addr} {o : HO} (h : H p = none) : Keep ok ok H (upd H p o) := Keep.fr (Fr.new h) fun _ k => k
theorem Keep.mono {o1 o2 : Addr → Prop} {H : Hp} (h : ∀ x, o1 x → H x ≠ none → o2 x) : Keep o1 o2 H H := fun x kd xs k e => ⟨h x k (by rw [e]; exact fun z => nomatch z), e⟩
theorem At.to {ok ok' : Addr → Prop} {kk : Bool → Prop} {H H' : Hp} {v : V} {xs : List V} (h : At ok kk H v xs) (t : Keep ok ok' H H') : At ok' kk H' v xs := by
  obtain ⟨a, kd, e, k, q, m⟩ := h
  obtain ⟨k', m'⟩ := t a kd xs k m
  exact ⟨a, kd, e, k', q, m'⟩
theorem At.kinds {ok : Addr → Prop} {kk kk' : Bool → Prop} {H : Hp} {v : V} {xs : List V} (h : At ok kk H v xs) (t : ∀ b, kk b → kk' b) : At ok kk' H v xs := by
  obtain ⟨a, kd, e, k, q, m⟩ := h
  exact ⟨a, kd, e, k, t _ q, m⟩
theorem paired_imp {α β : Type} {R S : α → β → Prop} : ∀ {xs : List α} {ys : List β}, Paired R xs ys → (∀ x y, R x y → S x y) → Paired S xs ys
  | _, _, .nil, _ => .nil
  | _, _, .cons r t, f => .cons (f _ _ r) (paired_imp t f)
theorem RowAt.gen {ok ok' : Addr → Prop} {kk kk' : Bool → Bool → Prop} {H H' : Hp} (t : Keep ok ok' H H') (tk : ∀ s b, kk s b → kk' s b) : ∀ (d : Nat) (v : V) (r : Row), RowAt ok kk H d v r → RowAt ok' kk' H' d v r := by
  have g : ∀ {s v xs}, At ok (kk s) H v xs → At ok' (kk' s) H' v xs := fun h => (h.to t).kinds (tk _)
  intro d
  induction d with
  | zero =>
    intro v r h
    cases r with
    | plain w fs => exact g h
    | _ => exact h.elim
  | succ d ih =>
    intro v r h
    cases r with
    | plain w fs => exact g h
    | make n b =>
      obtain ⟨vb, xs, h1, h2, h3⟩ := h
      exact ⟨vb, xs, g h1, g h2, paired_imp h3 ih⟩
    | when n b c =>
      obtain ⟨vb, xs, vc, ys, h1, h2, h3, h4, h5⟩ := h
      exact ⟨vb, xs, vc, ys, g h1, g h2, paired_imp h3 ih, g h4, paired_imp h5 ih⟩
    | try_ b c =>
      obtain ⟨vb, xs, vc, ys, h1, h2, h3, h4, h5⟩ := h
      exact ⟨vb, xs, vc, ys, g h1, g h2, paired_imp h3 ih, g h4, paired_imp h5 ih⟩
theorem RowAt.to {ok ok' : Addr → Prop} {kk : Bool → Bool → Prop} {H H' : Hp} {d : Nat} {v : V} {r : Row} (h : RowAt ok kk H d v r) (t : Keep ok ok' H H') : RowAt ok' kk H' d v r := RowAt.gen t (fun _ _ h => h) d v r h
theorem RowsAt.to {ok ok' : Addr → Prop} {kk : Bool → Bool → Prop} {H H' : Hp} {d : Nat} {v : V} {rs : List Row} (h : RowsAt ok kk H d v rs) (t : Keep ok ok' H H') : RowsAt ok' kk H' d v rs := by
  obtain ⟨xs, h1, h2⟩ := h
  exact ⟨xs, h1.to t, paired_imp h2 fun v r q => q.to t⟩
theorem rowAt_mono {ok : Addr → Prop} {kk : Bool → Bool → Prop} {H : Hp} : ∀ (d : Nat) (v : V) (r : Row), RowAt ok kk H d v r → RowAt ok kk H (d + 1) v r := by
  intro d
  induction d with
  | zero =>
    intro v r h
    cases r with
    | plain w fs => exact h
    | _ => exact h.elim
  | succ d ih =>
    intro v r h
    cases r with
    | plain w fs => exact h
    | make n b =>
      obtain ⟨vb, xs, h1, h2, h3⟩ := h
      exact ⟨vb, xs, h1, h2, paired_imp h3 ih⟩
    | when n b c =>
      obtain ⟨vb, xs, vc, ys, h1, h2, h3, h4, h5⟩ := h
      exact ⟨vb, xs, vc, ys, h1, h2, paired_imp h3 ih, h4, paired_imp h5 ih⟩
    | try_ b c =>
      obtain ⟨vb, xs, vc, ys, h1, h2, h3, h4, h5⟩ := h
      exact ⟨vb, xs, vc, ys, h1, h2, paired_imp h3 ih, h4, paired_imp h5 ih⟩
/-- rows are tuples, blocks are lists -/
def lawK : Bool → Bool → Prop := fun b kd => kd = b
theorem paired_len {α β : Type} {R : α → β → Prop} : ∀ {xs : List α} {ys : List β}, Paired R xs ys → xs.length = ys.length
  | _, _, .nil => rfl
  | _, _, .cons _ t => congrArg Nat.succ (paired_len t)
theorem paired_app {α β : Type} {R : α → β → Prop} {x : α} {y : β} (r : R x y) : ∀ {xs : List α} {ys : List β}, Paired R xs ys → Paired R (xs ++ [x]) (ys ++ [y])
  | _, _, .nil => .cons r .nil
  | _, _, .cons q t => .cons q (paired_app r t)
theorem paired_get {α β : Type} {R : α → β → Prop} : ∀ {xs : List α} {ys : List β} {i : Nat} {x : α}, Paired R xs ys → xs[i]? = some x → ∃ y, ys[i]? = some y ∧ R x y
  | _, _, i, x, .nil, e => by simp at e
  | _, _, 0, x, .cons r _, e => by
    have z := Option.some.inj e
    subst z
    exact ⟨_, rfl, r⟩
  | _, _, i + 1, x, .cons _ t, e => paired_get (i := i) t e
theorem paired_getR {α β : Type} {R : α → β → Prop} : ∀ {xs : List α} {ys : List β} {i : Nat} {y : β}, Paired R xs ys → ys[i]? = some y → ∃ x, xs[i]? = some x ∧ R x y
  | _, _, i, x, .nil, e => by simp at e
  | _, _, 0, x, .cons r _, e => by
    have z := Option.some.inj e
    subst z
    exact ⟨_, rfl, r⟩
  | _, _, i + 1, x, .cons _ t, e => paired_getR (i := i) t e
end Ft
set_option Elab.async false
set_option linter.all false
set_option maxRecDepth 100000
set_option maxHeartbeats 4000000
namespace Ft
open PySem L2
abbrev Lib := List (Str × List Row)
def LibAt (ok : Addr → Prop) (kk : Bool → Bool → Prop) (H : Hp) (kvs : List (Key × V)) (lib : Lib) : Prop := Paired (fun (kv : Key × V) (m : Str × List Row) => kv.1 = Sum.inr m.1 ∧ RowsAt ok kk H 3 kv.2 m.2) kvs lib
theorem LibAt.to {ok ok' : Addr → Prop} {kk : Bool → Bool → Prop} {H H' : Hp} {kvs : List (Key × V)} {lib : Lib} (h : LibAt ok kk H kvs lib) (t : Keep ok ok' H H') : LibAt ok' kk H' kvs lib := paired_imp h fun _ _ q => ⟨q.1, q.2.to t⟩
structure LibOk (lib : Lib) : Prop where
  few : lib.length ≤ 4
  nd : (lib.map (·.1)).Nodup
  word : ∀ m ∈ lib, isW m.1 = true
  len : ∀ m ∈ lib, m.2.length ≤ 24
  rows : ∀ m ∈ lib, ∀ r ∈ m.2, RowO8 3 false r
  tot : (lib.map fun m => m.2.length).sum ≤ 32
theorem rows_le : ∀ {lib : Lib}, (∀ m ∈ lib, m.2.length ≤ 8) → (lib.map fun m => m.2.length).sum ≤ 8 * lib.length
  | [], _ => by simp
  | m :: lib, h => by
    have h1 := h m (by simp)
    have h2 := rows_le (lib := lib) fun x hx => h x (by simp [hx])
    rw [List.map_cons, List.sum_cons, List.length_cons]
    omega
theorem rows_tot {lib : Lib} (hl : lib.length ≤ 4) (h : ∀ m ∈ lib, m.2.length ≤ 8) : (lib.map fun m => m.2.length).sum ≤ 32 := by
  have := rows_le h
  omega
def putL (lib : Lib) (z : Str) (rs : List Row) : Lib := if (lib.any fun m => decide (m.1 = z)) = true then lib.map (fun m => if m.1 = z then (m.1, rs) else m) else lib ++ [(z, rs)]
theorem putL_any {ok : Addr → Prop} {kk : Bool → Bool → Prop} {H : Hp} {z : Str} : ∀ {kvs : List (Key × V)} {lib : Lib}, LibAt ok kk H kvs lib → (kvs.any fun kv => decide (kv.1 = Sum.inr z)) = (lib.any fun m => decide (m.1 = z))
  | _, _, .nil => rfl
  | _, _, .cons (a := kv) (b := m) r t => by
    rw [List.any_cons, List.any_cons, putL_any t, r.1]
    congr 1
    by_cases e : m.1 = z
    · rw [e]; simp
    · have : ¬ (Sum.inr m.1 : Key) = Sum.inr z := fun h => e (Sum.inr.inj h)
      rw [decide_eq_false e, decide_eq_false this]
theorem libAt_put {ok : Addr → Prop} {kk : Bool → Bool → Prop} {H : Hp} {kvs : List (Key × V)} {lib : Lib} {z : Str} {v : V} {rs : List Row} (h : LibAt ok kk H kvs lib) (hv : RowsAt ok kk H 3 v rs) : LibAt ok kk H (putK kvs (Sum.inr z) v) (putL lib z rs) := by
  unfold putK putL
  rw [putL_any (z := z) h]
  split
  · have go : ∀ {kvs : List (Key × V)} {lib : Lib}, LibAt ok kk H kvs lib → LibAt ok kk H (kvs.map (fun kv => if kv.1 = Sum.inr z then (kv.1, v) else kv)) (lib.map (fun m => if m.1 = z then (m.1, rs) else m)) := by
      intro kvs lib h
      induction h with
      | nil => exact .nil
      | cons r t ih =>
        refine .cons ?_ ih
        rename_i kv m _ _
        dsimp only
        by_cases e : m.1 = z
        · have e2 : kv.1 = Sum.inr z := by rw [r.1, e]
          rw [if_pos e, if_pos e2]
          exact ⟨r.1, hv⟩
        · have e2 : ¬ kv.1 = Sum.inr z := by rw [r.1]; exact fun q => e (Sum.inr.inj q)
          rw [if_neg e, if_neg e2]
          exact r
    exact go h
  · exact paired_app ⟨rfl, hv⟩ h
theorem putL_keys (lib : Lib) (z : Str) (rs : List Row) : (putL lib z rs).map (·.1) = if z ∈ lib.map (·.1) then lib.map (·.1) else lib.map (·.1) ++ [z] := by
  unfold putL
  have ea : ((lib.any fun m => decide (m.1 = z)) = true) ↔ z ∈ lib.map (·.1) := by
    rw [List.any_eq_true]
    constructor
    · rintro ⟨m, hm, e⟩
      have e' : m.1 = z := of_decide_eq_true e
      exact List.mem_map.mpr ⟨m, hm, e'⟩
    · intro h
      obtain ⟨m, hm, e⟩ := List.mem_map.mp h
      exact ⟨m, hm, decide_eq_true e⟩
  by_cases c : z ∈ lib.map (·.1)
  · rw [if_pos (ea.mpr c), if_pos c, List.map_map]
    refine List.map_congr_left fun m _ => ?_
    show (if m.1 = z then (m.1, rs) else m).1 = m.1
    split <;> rfl
  · rw [if_neg (fun h => c (ea.mp h)), if_neg c, List.map_append]
    rfl
theorem putL_mem {lib : Lib} {z : Str} {rs : List Row} {m : Str × List Row} (h : m ∈ putL lib z rs) : m = (z, rs) ∨ m ∈ lib := by
  unfold putL at h
  split at h
  · obtain ⟨m', hm, e⟩ := List.mem_map.mp h
    by_cases c : m'.1 = z
    · rw [if_pos c] at e
      rw [← c]; exact .inl e.symm
    · rw [if_neg c] at e
      rw [← e]; exact .inr hm
  · rcases List.mem_append.mp h with h | h
    · exact .inr h
    · exact .inl (List.mem_singleton.mp h)
theorem putL_len (lib : Lib) (z : Str) (rs : List Row) : lib.length ≤ (putL lib z rs).length ∧ (putL lib z rs).length ≤ lib.length + 1 ∧ 0 < (putL lib z rs).length := by
  unfold putL
  split
  · rename_i h
    rw [List.length_map]
    have : lib ≠ [] := fun e => by rw [e] at h; cases h
    exact ⟨Nat.le_refl _, Nat.le_succ _, List.length_pos_iff.mpr this⟩
  · rw [List.length_append]
    exact ⟨Nat.le_add_right _ _, Nat.le_refl _, Nat.succ_pos _⟩
theorem putL_nd {lib : Lib} {z : Str} {rs : List Row} (h : (lib.map (·.1)).Nodup) : ((putL lib z rs).map (·.1)).Nodup := by
  rw [putL_keys]
  split
  · exact h
  · rename_i c
    rw [List.nodup_append]
    refine ⟨h, by simp, fun x hx y hy e => c ?_⟩
    rw [List.mem_singleton.mp hy] at e
    rw [← e]; exact hx
theorem libAt_len {ok : Addr → Prop} {kk : Bool → Bool → Prop} {H : Hp} {kvs : List (Key × V)} {lib : Lib} (h : LibAt ok kk H kvs lib) : kvs.length = lib.length := paired_len h
theorem libAt_keys {ok : Addr → Prop} {kk : Bool → Bool → Prop} {H : Hp} {kvs : List (Key × V)} {lib : Lib} (h : LibAt ok kk H kvs lib) : kvs.map (·.1) = (lib.map (·.1)).map Sum.inr := by
  induction h with
  | nil => rfl
  | cons r t ih => rw [List.map_cons, List.map_cons, List.map_cons, ih, r.1]
/-- what a module of the library has -/
theorem libAt_val {ok : Addr → Prop} {kk : Bool → Bool → Prop} {H : Hp} {kvs : List (Key × V)} {lib : Lib} (h : LibAt ok kk H kvs lib) {z : Str} {rs : List Row} (hn : (lib.map (·.1)).Nodup) (hm : (z, rs) ∈ lib) : ∃ v, valV kvs (Sum.inr z) = some v ∧ RowsAt ok kk H 3 v rs := by
  induction h with
  | nil => cases hm
  | cons r t ih =>
    rename_i kv m kvs' lib'
    rw [List.map_cons, List.nodup_cons] at hn
    rcases List.mem_cons.mp hm with e | hm
    · subst e
      refine ⟨kv.2, ?_, r.2⟩
      unfold valV
      rw [List.find?_cons_of_pos (by rw [r.1]; exact decide_eq_true rfl)]
      rfl
    · obtain ⟨v, hv, hr⟩ := ih hn.2 hm
      refine ⟨v, ?_, hr⟩
      have : ¬ kv.1 = Sum.inr z := fun e => by
        rw [r.1] at e
        have e' := Sum.inr.inj e
        exact hn.1 (by rw [e']; exact List.mem_map.mpr ⟨_, hm, rfl⟩)
      unfold valV at hv ⊢
      rw [List.find?_cons_of_neg (by rw [decide_eq_false this]; exact Bool.false_ne_true)]
      exact hv
end Ft
set_option Elab.async false
set_option linter.all false
set_option maxRecDepth 100000
set_option maxHeartbeats 4000000
namespace Ft
open PySem PySem.Spec PyProof.Rows L2
def kitAnyB (T : String) : List String → Option Bool
  | [] => some false
  | c :: cs => match kitB T c with
    | some true => some true
    | some false => kitAnyB T cs
    | none => none
theorem kitAny_of {K : PySem.W.Frag} {T : String} : ∀ {cs : List String} {b : Bool}, kitAnyB T cs = some b → PySem.W.kitAny K (.type T) (cs.map Value.type) = some b
  | [], b, h => by
    have : false = b := Option.some.inj h
    subst this
    exact kitAny_nil
  | c :: cs, b, h => by
    unfold kitAnyB at h
    cases e : kitB T c with
    | none => rw [e] at h; cases h
    | some x =>
      rw [e] at h
      cases x with
      | true =>
        have : true = b := Option.some.inj h
        subst this
        exact kitAny_cons (kit_ty e) (fun z => by cases z) (fun _ => rfl)
      | false => exact kitAny_cons (kit_ty e) (fun _ => kitAny_of h) (fun z => by cases z)
theorem clsV_all : ∀ (cs : List String), Paired ClsV (cs.map V.ty) (cs.map Value.type)
  | [] => .nil
  | c :: cs => .cons (.ty c) (clsV_all cs)
def isAtom : V → Bool
  | .non => true
  | .bl _ => true
  | .int _ => true
  | .str _ => true
  | _ => false
def atomT : V → String
  | .non => "NoneType"
  | .bl _ => "bool"
  | .int _ => "int"
  | .str _ => "str"
  | _ => ""
def seqT (kd : Bool) : String := if kd then "list" else "tuple"
theorem atom_ty {K : PySem.W.Frag} {H : Hp} {x : V} (h : isAtom x = true) : TyX K H x (.type (atomT x)) := by
  cases x with
  | non => exact .base .non
  | bl b => exact .base (.bl b)
  | int i => exact .base (.int i)
  | str z => exact .base (.str z)
  | _ => cases h
theorem seq_ty {K : PySem.W.Frag} {H : Hp} {a : Addr} {kd : Bool} {xs : List V} (h : H a = some (mkO kd xs)) : TyX K H (.ref a) (.type (seqT kd)) := by
  cases kd with
  | true => exact .base (.lst h)
  | false => exact .base (.tup h)
theorem atom_lt {x : V} (h : isAtom x = true) : kitAnyB (atomT x) ["list", "tuple"] = some false := by
  cases x with
  | non => decide +kernel
  | bl b => show kitAnyB "bool" ["list", "tuple"] = some false; decide +kernel
  | int i => show kitAnyB "int" ["list", "tuple"] = some false; decide +kernel
  | str z => show kitAnyB "str" ["list", "tuple"] = some false; decide +kernel
  | _ => cases h
theorem seq_lt (kd : Bool) : kitAnyB (seqT kd) ["list", "tuple"] = some true := by cases kd <;> decide +kernel
end Ft
set_option Elab.async false
set_option linter.all false
set_option maxRecDepth 100000
set_option maxHeartbeats 4000000
namespace Ft
open PySem L2
def anyE : Bool → Prop := fun _ => True
theorem At.any {ok : Addr → Prop} {kk : Bool → Prop} {H : Hp} {v : V} {xs : List V} (h : At ok kk H v xs) : At ok anyE H v xs := h.kinds fun _ _ => trivial
inductive E where
  | at (v : V)
  | sq (es : List E)
/-- how many things a tree of a level has at most: a module's rows 24, all else 8 -/
def bE (m : Nat) : Nat := if m ≤ 0 then 24 else 24
theorem bE_ge (m : Nat) : 24 ≤ bE m := by unfold bE; split <;> omega
theorem bE_le (m : Nat) : bE m ≤ 24 := by unfold bE; split <;> omega
def EAt (ok : Addr → Prop) (kk : Bool → Prop) (H : Hp) : Nat → V → E → Prop
  | _, v, .at x => v = x ∧ isAtom x = true
  | m + 1, v, .sq es => ∃ xs, At ok kk H v xs ∧ es.length ≤ bE m ∧ Paired (EAt ok kk H m) xs es
  | 0, _, .sq _ => False
theorem EAt.gen {ok ok' : Addr → Prop} {kk kk' : Bool → Prop} {H H' : Hp} (t : Keep ok ok' H H') (tk : ∀ b, kk b → kk' b) : ∀ (m : Nat) (v : V) (e : E), EAt ok kk H m v e → EAt ok' kk' H' m v e := by
  intro m
  induction m with
  | zero =>
    intro v e h
    cases e with
    | «at» x => exact h
    | sq es => exact h.elim
  | succ m ih =>
    intro v e h
    cases e with
    | «at» x => exact h
    | sq es =>
      obtain ⟨xs, h1, h2, h3⟩ := h
      exact ⟨xs, (h1.to t).kinds tk, h2, paired_imp h3 ih⟩
theorem EAt.to {ok ok' : Addr → Prop} {kk : Bool → Prop} {H H' : Hp} {m : Nat} {v : V} {e : E} (h : EAt ok kk H m v e) (t : Keep ok ok' H H') : EAt ok' kk H' m v e := EAt.gen t (fun _ h => h) m v e h
def encR : Nat → Row → E
  | _, .plain w fs => .sq (.at (.str w) :: fs.map .at)
  | d + 1, .make n b => .sq [.at (.str "make"), .at (.str n), .sq (b.map (encR d))]
  | d + 1, .when n b c => .sq [.at (.str "when"), .at (.str n), .sq (b.map (encR d)), .sq (c.map (encR d))]
  | d + 1, .try_ b c => .sq [.at (.str "try"), .sq (b.map (encR d)), .sq (c.map (encR d))]
  | 0, _ => .at .non
theorem fld_atom {k : Bool} {v : V} (h : fldOk k v = true) : isAtom v = true := by
  cases k <;> cases v <;> first | rfl | cases h
theorem paired_mapR {α β γ : Type} {R : α → γ → Prop} {f : β → γ} : ∀ {xs : List α} {ys : List β}, Paired (fun x y => R x (f y)) xs ys → Paired R xs (ys.map f)
  | _, _, .nil => .nil
  | _, _, .cons r t => .cons r (paired_mapR t)
theorem paired_mapR' {α β γ : Type} {R : α → γ → Prop} {f : β → γ} : ∀ {xs : List α} {ys : List β}, Paired R xs (ys.map f) → Paired (fun x y => R x (f y)) xs ys
  | [], [], _ => .nil
  | x :: xs, [], h => by cases h
  | [], y :: ys, h => by cases h
  | x :: xs, y :: ys, h => by
    cases h with
    | cons r t => exact .cons r (paired_mapR' t)
theorem paired_self {R : V → E → Prop} : ∀ {fs : List V}, (∀ v ∈ fs, R v (.at v)) → Paired R fs (fs.map E.at)
  | [], _ => .nil
  | v :: fs, h => .cons (h v (by simp)) (paired_self fun u hu => h u (by simp [hu]))
theorem paired_impM {α β : Type} {R S : α → β → Prop} : ∀ {xs : List α} {ys : List β}, Paired R xs ys → (∀ x y, y ∈ ys → R x y → S x y) → Paired S xs ys
  | _, _, .nil, _ => .nil
  | _, _, .cons r t, f => .cons (f _ _ (by simp) r) (paired_impM t fun x y hy => f x y (by simp [hy]))
theorem plain_len {w : Str} {ks : List Bool} (h : (w, ks) ∈ plainT) : ks.length ≤ 3 := by
  have : ∀ p ∈ plainT, p.2.length ≤ 3 := by decide +kernel
  exact this _ h
theorem plain_atoms {wi : Bool} {w : Str} {fs : List V} (h : plainOk wi w fs) : (∀ v ∈ fs, isAtom v = true) ∧ fs.length ≤ 3 := by
  obtain ⟨ks, hk, hp, _⟩ := h
  refine ⟨fun v hv => ?_, by rw [← paired_len hp]; exact plain_len hk⟩
  obtain ⟨i, hi, e⟩ := List.mem_iff_getElem.mp hv
  obtain ⟨k, _, r⟩ := paired_getR hp (i := i) (y := v) (by rw [List.getElem?_eq_getElem hi, e])
  exact fld_atom r
section
variable {ok : Addr → Prop} {kk : Bool → Bool → Prop} {kd : Bool → Prop} {H : Hp}
theorem enc_plain (hq : ∀ s b, kk s b → kd b) {m : Nat} {v : V} {w : Str} {fs : List V} {wi : Bool} (hp : plainOk wi w fs) (h : At ok (kk false) H v (.str w :: fs)) : EAt ok kd H (m + 1) v (.sq (.at (.str w) :: fs.map .at)) := by
  obtain ⟨ha, hl⟩ := plain_atoms hp
  refine ⟨_, (h.kinds (hq _)), by have := bE_ge m; simp; omega, .cons ?_ (paired_self fun u hu => ?_)⟩
  · cases m <;> exact ⟨rfl, rfl⟩
  · cases m <;> exact ⟨rfl, ha u hu⟩
theorem eat_at {m : Nat} {x : V} (h : isAtom x = true) : EAt ok kd H m x (.at x) := by cases m <;> exact ⟨rfl, h⟩
theorem enc_rows (hq : ∀ s b, kk s b → kd b) {d m : Nat} {v : V} {xs : List V} {rs : List Row} (hl : rs.length ≤ bE m) (ih : ∀ v r, r ∈ rs → RowAt ok kk H d v r → EAt ok kd H m v (encR d r)) (ha : At ok (kk true) H v xs) (h : Paired (RowAt ok kk H d) xs rs) : EAt ok kd H (m + 1) v (.sq (rs.map (encR d))) :=
  ⟨xs, (ha.kinds (hq _)), by rw [List.length_map]; exact hl, paired_mapR (paired_impM h fun x r hr q => ih x r hr q)⟩
theorem enc_row (hq : ∀ s b, kk s b → kd b) : ∀ (d : Nat) (wi : Bool) (v : V) (r : Row), RowOk d wi r → RowAt ok kk H d v r → EAt ok kd H (2 * d + 1) v (encR d r) := by
  intro d
  induction d with
  | zero =>
    intro wi v r hk h
    cases r with
    | plain w fs => exact enc_plain hq hk h
    | _ => exact h.elim
  | succ d ih =>
    intro wi v r hk h
    have e2 : 2 * (d + 1) + 1 = 2 * d + 1 + 1 + 1 := by omega
    rw [e2]
    cases r with
    | plain w fs => exact enc_plain hq hk h
    | make n b =>
      obtain ⟨vb, xs, h1, h2, h3⟩ := h
      exact ⟨_, (h1.kinds (hq _)), (Nat.le_trans (by show 3 ≤ 24; decide) (bE_ge _)), .cons (eat_at rfl) (.cons (eat_at rfl) (.cons (enc_rows hq (Nat.le_trans hk.2.2.1 (bE_ge _)) (fun v r hr => ih true v r (hk.2.2.2 r hr)) h2 h3) .nil))⟩
    | when n b c =>
      obtain ⟨vb, xs, vc, ys, h1, h2, h3, h4, h5⟩ := h
      exact ⟨_, (h1.kinds (hq _)), (Nat.le_trans (by show 4 ≤ 24; decide) (bE_ge _)), .cons (eat_at rfl) (.cons (eat_at rfl) (.cons (enc_rows hq (Nat.le_trans hk.2.1 (bE_ge _)) (fun v r hr => ih wi v r (hk.2.2.2.1 r hr)) h2 h3) (.cons (enc_rows hq (Nat.le_trans hk.2.2.1 (bE_ge _)) (fun v r hr => ih wi v r (hk.2.2.2.2 r hr)) h4 h5) .nil)))⟩
    | try_ b c =>
      obtain ⟨vb, xs, vc, ys, h1, h2, h3, h4, h5⟩ := h
      exact ⟨_, (h1.kinds (hq _)), (Nat.le_trans (by show 3 ≤ 24; decide) (bE_ge _)), .cons (eat_at rfl) (.cons (enc_rows hq (Nat.le_trans hk.1 (bE_ge _)) (fun v r hr => ih wi v r (hk.2.2.1 r hr)) h2 h3) (.cons (enc_rows hq (Nat.le_trans hk.2.1 (bE_ge _)) (fun v r hr => ih wi v r (hk.2.2.2 r hr)) h4 h5) .nil))⟩
theorem at_inv {m : Nat} {v x : V} (h : EAt ok kd H m v (.at x)) : v = x := by cases m <;> exact h.1
theorem sq_inv {m : Nat} {v : V} {es : List E} (h : EAt ok kd H m v (.sq es)) : ∃ m' xs, m = m' + 1 ∧ At ok kd H v xs ∧ Paired (EAt ok kd H m') xs es := by
  cases m with
  | zero => exact h.elim
  | succ m =>
    obtain ⟨xs, h1, _, h2⟩ := h
    exact ⟨m, xs, rfl, h1, h2⟩
theorem dec_atoms {m : Nat} : ∀ {xs fs : List V}, Paired (EAt ok kd H m) xs (fs.map E.at) → xs = fs
  | [], [], _ => rfl
  | x :: xs, [], h => by cases h
  | [], y :: ys, h => by cases h
  | x :: xs, y :: ys, h => by
    cases h with
    | cons r t => rw [at_inv r, dec_atoms t]
theorem dec_row : ∀ (d : Nat) (wi : Bool) (m : Nat) (v : V) (r : Row), RowOk d wi r → EAt ok kd H m v (encR d r) → RowAt ok (fun _ => kd) H d v r := by
  have plain : ∀ {m : Nat} {v : V} {w : Str} {fs : List V}, EAt ok kd H m v (.sq (.at (.str w) :: fs.map .at)) → At ok kd H v (.str w :: fs) := by
    intro m v w fs h
    obtain ⟨m', xs, rfl, h1, h2⟩ := sq_inv h
    cases h2 with
    | cons r t =>
      rw [at_inv r, dec_atoms t] at h1
      exact h1
  intro d
  induction d with
  | zero =>
    intro wi m v r hk h
    cases r with
    | plain w fs => exact plain h
    | _ => exact hk.elim
  | succ d ih =>
    intro wi m v r hk h
    have blk : ∀ {m : Nat} {v : V} {b : List Row} {wi : Bool}, (∀ r ∈ b, RowOk d wi r) → EAt ok kd H m v (.sq (b.map (encR d))) → ∃ xs, At ok kd H v xs ∧ Paired (RowAt ok (fun _ => kd) H d) xs b := by
      intro m v b wi hb h
      obtain ⟨m', xs, rfl, h1, h2⟩ := sq_inv h
      exact ⟨xs, h1, paired_impM (paired_mapR' h2) fun x r hr q => ih wi m' x r (hb r hr) q⟩
    cases r with
    | plain w fs => exact plain h
    | make n b =>
      obtain ⟨m', xs, rfl, h1, h2⟩ := sq_inv h
      cases h2 with
      | cons r1 t =>
        cases t with
        | cons r2 t =>
          cases t with
          | cons r3 t =>
            cases t
            rw [at_inv r1, at_inv r2] at h1
            obtain ⟨ys, h3, h4⟩ := blk hk.2.2.2 r3
            exact ⟨_, ys, h1, h3, h4⟩
    | when n b c =>
      obtain ⟨m', xs, rfl, h1, h2⟩ := sq_inv h
      cases h2 with
      | cons r1 t =>
        cases t with
        | cons r2 t =>
          cases t with
          | cons r3 t =>
            cases t with
            | cons r4 t =>
              cases t
              rw [at_inv r1, at_inv r2] at h1
              obtain ⟨ys, h3, h4⟩ := blk hk.2.2.2.1 r3
              obtain ⟨zs, h5, h6⟩ := blk hk.2.2.2.2 r4
              exact ⟨_, ys, _, zs, h1, h3, h4, h5, h6⟩
    | try_ b c =>
      obtain ⟨m', xs, rfl, h1, h2⟩ := sq_inv h
      cases h2 with
      | cons r1 t =>
        cases t with
        | cons r3 t =>
          cases t with
          | cons r4 t =>
            cases t
            rw [at_inv r1] at h1
            obtain ⟨ys, h3, h4⟩ := blk hk.2.2.1 r3
            obtain ⟨zs, h5, h6⟩ := blk hk.2.2.2 r4
            exact ⟨_, ys, _, zs, h1, h3, h4, h5, h6⟩
end
end Ft
set_option Elab.async false
set_option linter.all false
set_option maxRecDepth 100000
set_option maxHeartbeats 4000000
namespace Ft
open PySem L2
def tupE : Bool → Prop := fun b => b = false
section
variable {P : Program} {w : World} {K : PySem.W.Frag} {mg : Str → Option Value} {base : Heap}
abbrev sLTupled : Stmt := topS 40
theorem scLTupled : FnScope ["_law_thing", "_law_part"] ["_law_thing"] (defScope sLTupled) := ⟨rfl, rfl, rfl, by decide +kernel, rfl, by decide +kernel, by decide +kernel⟩
def spLTupled (m : Nat) : Sp := fun vs H Q _ => ∃ (v : V) (e : E) (ok : Addr → Prop), vs = [v] ∧ EAt ok anyE H m v e ∧
  ∀ H' v', Same H H' → EAt (fun x => H x = none) tupE H' m v' e → Q v' H'
theorem ok_LTupled {f : Addr} {fd : FuncData} {k m : Nat} {spG : Sp} (F : Fun K "_law_tupled" "_law_tupled" sLTupled f fd) (B : Bl mg)
    (gLTupled : Own P w K mg base k "_law_tupled" ["_law_thing"] spG) (hG : ∀ e, m = e + 1 → spG = spLTupled e) : FnOk P w K mg base CX0 (k + 1) f fd ["_law_thing"] (spLTupled m) := by
  refine F.ok scLTupled (fun vs H Q E h => ?_) (fun cdv A outer s H vs Q E hr h => ?_)
  · obtain ⟨v, e, ok, rfl, _⟩ := h
    rfl
  obtain ⟨v, e, ok, rfl, hv, q⟩ := h
  refine ⟨_, (pss_one (ps_ret (pe_ifExp (pt_val (pe_callB call_isiT (by rfl) B.isinstance (by decide +kernel) (pa_cons (pv 0) (pa_cons (pe_tup (pa_cons (pe_bltn (v := .ty "list") (by rfl) B.list (by decide +kernel) rfl) (pa_cons (pe_bltn (v := .ty "tuple") (by rfl) B.tuple (by decide +kernel) rfl) pa_nil))) pa_nil)))) (pe_callTy call_tuple_of (by rfl) B.tuple (by decide +kernel) (pa_cons (pe_lc (own := [("_law_part", 1)]) (g := (gName 1)) (tt := tYes) (by rfl) scLTupled.nd (pi_seq (pv 0)) (blkOk_by (own := [("_law_part", 1)]) (N := ["_law_thing", "_law_part"]) (sc := defScope sLTupled) (by decide +kernel)) (fun _ _ _ _ _ => (pg_name (i := 1) scLTupled.nd rfl (by first | exact Or.inl rfl | exact Or.inr rfl))) (fun _ _ _ _ _ => pts_nil) (fun _ _ _ _ _ => (pe_own gLTupled (hr.mono (by omega)) (by rfl) (pa_cons (pv 1) pa_nil)))) pa_nil)) (pv 0)))), ?_⟩
  refine ⟨_, rfl, (by show 2 ≤ sizeLine; decide), fun t0 nt => ?_⟩
  have s0 : Same H (upd H t0 (.tup [.ty "list", .ty "tuple"])) := Same.new nt
  cases e with
  | «at» x =>
    obtain ⟨rfl, hx⟩ : v = x ∧ isAtom x = true := by cases m <;> exact hv
    refine ⟨_, t0, _, _, _, _, rfl, upd_same, clsV_all ["list", "tuple"], atom_ty hx, kitAny_of (atom_lt hx), false, rfl, iteF ⟨_, rfl, ?_⟩⟩
    exact q _ _ s0 (eat_at hx)
  | sq es =>
    obtain ⟨m', xs, rfl, hat, hall⟩ := sq_inv hv
    have hl8 : es.length ≤ bE m' := by
      obtain ⟨_, _, h8, _⟩ := hv
      exact h8
    have eG := hG m' rfl
    subst eG
    obtain ⟨b, kd, rfl, okb, _, hb⟩ := hat
    have hb0 := s0 _ _ hb
    refine ⟨_, t0, _, _, _, _, rfl, upd_same, clsV_all ["list", "tuple"], seq_ty hb0, kitAny_of (seq_lt kd), true, rfl, iteT ?_⟩
    generalize upd H t0 _ = H0 at s0 hb0
    have lx : xs.length = es.length := paired_len hall
    refine ⟨_, rfl, b, kd, xs, rfl, sq_of hb0, fun D nD => ?_⟩
    have nDH : H D = none := Same.free s0 nD
    refine lc_it walk_seq (fun i H' => Same H0 H' ∧ ∃ ys, H' D = some (.lst ys) ∧ Paired (EAt (fun x => H x = none ∧ x ≠ D) tupE H' m') ys (es.take i))
      ⟨Same.new nD, [], upd_same, .nil⟩ (fun i H' _ ⟨fr, _⟩ => sq_of (fr _ _ hb0)) ?_ ?_
    · rintro i x H1 H2 hi ⟨s1, ys, hD, hys⟩ ⟨rfl, hx⟩
      obtain ⟨e, he, hxe⟩ := paired_get hall hx
      have s01 : Same H H2 := Same.trans s0 s1
      refine ⟨rfl, _, rfl, x, e, ok, rfl, hxe.to (Keep.fr (Fr.same s01) fun _ k => k), fun H3 v' s3 hv' => ?_⟩
      have ly : ys.length ≤ 24 := by have := bE_le m'; rw [paired_len hys, List.length_take]; omega
      have et : es.take (i + 1) = es.take i ++ [e] := by rw [List.take_add_one, he]; rfl
      refine ⟨ys, s3 _ _ hD, small (by omega), Same.upN (Same.trans s1 s3) nD, ys ++ [v'], upd_same, ?_⟩
      rw [et]
      refine paired_app ?_ (paired_imp hys fun v f h => h.to fun x kd zs k e => ⟨k, by rw [upd_ne k.2]; exact s3 _ _ e⟩)
      refine hv'.to fun y kd zs k e => ?_
      have yD : y ≠ D := fun z => by rw [z, hD] at k; cases k
      exact ⟨⟨Same.free s01 k, yD⟩, by rw [upd_ne yD]; exact e⟩
    · rintro H1 ⟨s1, ys, hD, hys⟩
      have et : es.take xs.length = es := List.take_of_length_le (by omega)
      rw [et] at hys
      refine ⟨D, ys, rfl, .inl ⟨SqL.of hD, fun t2 nt2 => ?_⟩⟩
      refine q _ _ (Same.trans (Same.trans s0 s1) (Same.new nt2)) ⟨ys, ⟨t2, false, rfl, Same.free (Same.trans s0 s1) nt2, rfl, upd_same⟩, hl8, ?_⟩
      exact paired_imp hys fun v f h => h.to fun x kd zs k e => ⟨k.1, Same.new nt2 _ _ e⟩
theorem ltupled_ok {f : Addr} {fd : FuncData} (F : Fun K "_law_tupled" "_law_tupled" sLTupled f fd) (B : Bl mg) (m : mg "_law_tupled" = some (.ref f)) (b : Binds K fd ["_law_thing"] []) : ∀ d : Nat, Own P w K mg base (1 + d) "_law_tupled" ["_law_thing"] (spLTupled d)
  | 0 => own_mk F m b (ok_LTupled (k := 0) F B (own_mk F m b fn_false) (fun e h => absurd h (by omega)))
  | d + 1 => own_mk F m b (ok_LTupled (k := 1 + d) F B (ltupled_ok F B m b d) (fun e h => by
      have : d = e := by omega
      rw [this]))
end
end Ft
set_option Elab.async false
set_option linter.all false
set_option maxRecDepth 100000
set_option maxHeartbeats 4000000
namespace Ft
open PySem L2
inductive DT where
  | at (v : V)
  | sq (kd : Bool) (ts : List DT)
def DtAt (H : Hp) : Nat → V → DT → Prop
  | _, v, .at x => v = x ∧ isAtom x = true
  | m + 1, v, .sq kd ts => ∃ a xs, v = .ref a ∧ H a = some (mkO kd xs) ∧ ts.length ≤ 16000000 ∧ Paired (DtAt H m) xs ts
  | 0, _, .sq _ _ => False
theorem DtAt.to {H H' : Hp} (t : ∀ a kd xs, H a = some (mkO kd xs) → H' a = some (mkO kd xs)) : ∀ {m : Nat} {v : V} {d : DT}, DtAt H m v d → DtAt H' m v d := by
  intro m
  induction m with
  | zero =>
    intro v d h
    cases d with
    | «at» x => exact h
    | sq kd ts => exact h.elim
  | succ m ih =>
    intro v d h
    cases d with
    | «at» x => exact h
    | sq kd ts =>
      obtain ⟨a, xs, e, h1, h2, h3⟩ := h
      have go : ∀ {xs : List V} {ts : List DT}, Paired (DtAt H m) xs ts → Paired (DtAt H' m) xs ts := by
        intro xs ts h
        induction h with
        | nil => exact .nil
        | cons r _ ih2 => exact .cons (ih r) ih2
      exact ⟨a, xs, e, t _ _ _ h1, h2, go h3⟩
theorem seqT_list (kd : Bool) : kitB (seqT kd) "list" = some kd := by cases kd <;> decide +kernel
theorem seqT_tuple (kd : Bool) : kitB (seqT kd) "tuple" = some (!kd) := by cases kd <;> decide +kernel
def isIntB : V → Bool
  | .int _ => true
  | .bl _ => true
  | _ => false
def isBl : V → Bool
  | .bl _ => true
  | _ => false
theorem atom_bi {x : V} (h : isAtom x = true) : kitAnyB (atomT x) ["bool", "int"] = some (isIntB x) := by
  cases x with
  | non => decide +kernel
  | bl b => show kitAnyB "bool" ["bool", "int"] = some true; decide +kernel
  | int i => show kitAnyB "int" ["bool", "int"] = some true; decide +kernel
  | str z => show kitAnyB "str" ["bool", "int"] = some false; decide +kernel
  | _ => cases h
theorem atom_int {x : V} (h : isAtom x = true) : kitB (atomT x) "int" = some (isIntB x) := by
  cases x with
  | non => decide +kernel
  | bl b => show kitB "bool" "int" = some true; decide +kernel
  | int i => show kitB "int" "int" = some true; decide +kernel
  | str z => show kitB "str" "int" = some false; decide +kernel
  | _ => cases h
theorem atom_bool {x : V} (h : isAtom x = true) : kitB (atomT x) "bool" = some (isBl x) := by
  cases x with
  | non => decide +kernel
  | bl b => show kitB "bool" "bool" = some true; decide +kernel
  | int i => show kitB "int" "bool" = some false; decide +kernel
  | str z => show kitB "str" "bool" = some false; decide +kernel
  | _ => cases h
theorem atom_blt {x : V} (h : isAtom x = true) (hb : isIntB x = false) : kitAnyB (atomT x) ["bool", "list", "tuple"] = some false := by
  cases x with
  | non => decide +kernel
  | str z => show kitAnyB "str" ["bool", "list", "tuple"] = some false; decide +kernel
  | bl b => cases hb
  | int i => cases hb
  | _ => cases h
end Ft
set_option Elab.async false
set_option linter.all false
set_option maxRecDepth 100000
set_option maxHeartbeats 4000000
namespace Ft
open PySem L2
theorem isW_strOk {z : Str} (h : isW z = true) : PyData.strOk z = true := by
  unfold isW at h
  rw [Bool.and_eq_true, Bool.and_eq_true] at h
  unfold PyData.strOk
  rw [Array.all_eq_true']
  intro c hc
  have := List.all_eq_true.mp h.2.2 c (Array.mem_toList_iff.mpr hc)
  rw [Bool.and_eq_true] at this
  have h2 : c ≤ 122 := of_decide_eq_true this.2
  exact decide_eq_true (by omega)
end Ft
set_option Elab.async false
set_option linter.all false
set_option maxRecDepth 100000
set_option maxHeartbeats 4000000
namespace Ft
open PySem L2
def repS (a : Str) (n : Nat) : Str := ⟨(List.replicate n a.cps).foldl (· ++ ·) #[]⟩
theorem repS_succ (a : Str) (n : Nat) : repS a (n + 1) = repS a n ++ a := by
  unfold repS
  rw [List.replicate_succ', List.foldl_append]
  rfl
theorem repS_zero (a : Str) : repS a 0 = Str.empty := rfl
theorem repS_one (a : Str) : repS a 1 = a := by
  rw [repS_succ, repS_zero]
  exact TL.ext_tl (by rw [TL.tl_append]; rfl)
theorem repS_len (a : Str) : ∀ n, (repS a n).length = n * a.length
  | 0 => by rw [Nat.zero_mul]; rfl
  | n + 1 => by rw [repS_succ, Str.length_append, repS_len a n, Nat.succ_mul]
section
variable {X : Cx}
theorem op_mul_str : OpR X (binaryOp .Mult) (fun x y H Q => ∃ (a : Str) (n : Nat), x = .str a ∧ y = .int n ∧ n ≤ 1000 ∧ a.length ≤ 1000 ∧ 0 < a.length ∧ Q (.str (repS a n)) H) := by
  intro pins s σ H x y v u Q I rx ry h
  obtain ⟨a, n, rfl, rfl, hn, ha, ha0, q⟩ := h
  obtain ⟨t, rfl⟩ := rx
  obtain ⟨t', rfl⟩ := ry
  have hm : a.length * n ≤ 1000000 := Nat.mul_le_mul ha hn
  refine PySem.P.mul_str ?_ ?_ ?_ ?_
  · have h1 : ¬ ((n : Int) < -(2 ^ 63 : Int)) := by omega
    have h2 : ¬ ((n : Int) ≥ 2 ^ 63) := by omega
    rw [decide_eq_false h1, decide_eq_false h2]; rfl
  · intro h1 _ h3
    have hp : (0 : Int) < n := by omega
    have : ((a.length : Int)) * n ≤ 1000000 := by
      rw [← Int.natCast_mul]
      exact Int.ofNat_le.mpr hm
    have h4 : (a.length : Int) ≤ (2 ^ 63 - 1) / (n : Int) := by
      rw [Int.le_ediv_iff_mul_le hp]
      omega
    omega
  · intro _ _
    rw [Int.toNat_natCast]
    unfold Builtin.Str.tooLong
    exact decide_eq_false (by have : sizeLine ≥ 1000000 := by decide
                              omega)
  · by_cases h1 : (n : Int) < 1
    · rw [if_pos h1]
      have e : n = 0 := by omega
      subst e
      exact ⟨by decide, .str Str.empty, H, I.tok _, ⟨_, rfl⟩, q⟩
    · rw [if_neg h1]
      by_cases h2 : n = 1
      · subst h2
        rw [if_pos (by rfl)]
        rw [repS_one] at q
        exact ⟨.str a, H, I, ⟨_, rfl⟩, q⟩
      · have e0 : ((n : Int) == 1 || a.length == 0) = false := by
          have h3 : ¬ ((n : Int) = 1) := by omega
          have h4 : ¬ (a.length = 0) := by omega
          simp [h3, h4]
        rw [e0, if_neg Bool.false_ne_true]
        refine ⟨?_, .str (repS a n), H, I.tok _, ?_, q⟩
        · have e := repS_len a n
          unfold repS at e
          rw [Int.toNat_natCast]
          have : sizeLine ≥ 1000000 := by decide
          have hm' : n * a.length ≤ 1000000 := by rw [Nat.mul_comm]; exact hm
          show _ ≤ _
          omega
        · rw [Int.toNat_natCast]
          exact ⟨_, rfl⟩
theorem call_strA : CallR X (.type "str") (fun xs H Q => (∃ a, xs = [.str a] ∧ Q (.str a) H) ∨ ∃ i, xs = [.int i] ∧ i.natAbs.log2 < 1920 ∧ Q (.str (toString i)) H) := by
  intro pins s σ H xs us Q I r h
  rcases h with h | h
  · exact SkE.call_str_str pins s σ H xs us Q I r h
  · exact call_str_int pins s σ H xs us Q I r h
end
end Ft
set_option Elab.async false
set_option linter.all false
set_option maxRecDepth 100000
set_option maxHeartbeats 4000000
namespace Ft
open PySem L2
def letters : Str := "abcdefghijklmnopqrstuvwxyz"
theorem letters_mem (c : Nat) : decide (c ∈ letters.cps.toList) = (decide (97 ≤ c) && decide (c ≤ 122)) := by
  have e : letters.cps.toList = List.range' 97 26 := by decide +kernel
  rw [e]
  have : (c ∈ List.range' 97 26) ↔ (97 ≤ c ∧ c ≤ 122) := by
    rw [List.mem_range'_1]
    omega
  by_cases h1 : 97 ≤ c
  · by_cases h2 : c ≤ 122
    · rw [decide_eq_true (this.mpr ⟨h1, h2⟩), decide_eq_true h1, decide_eq_true h2]; rfl
    · rw [decide_eq_false fun h => h2 (this.mp h).2, decide_eq_true h1, decide_eq_false h2]; rfl
  · rw [decide_eq_false fun h => h1 (this.mp h).1, decide_eq_false h1]; rfl
/-- whether a value is a word -/
def wordV : V → Bool
  | .str z => isW z
  | _ => false
/-- .. by its length alone -/
def lenV : V → Bool
  | .str z => decide (1 ≤ z.length) && decide (z.length ≤ 8)
  | _ => false
theorem lenV_str (z : Str) : lenV (.str z) = (decide (1 ≤ z.length) && decide (z.length ≤ 8)) := rfl
def intV : V → Bool
  | .int _ => true
  | _ => false
section
variable {P : Program} {w : World} {K : PySem.W.Frag} {mg : Str → Option Value} {base : Heap}
/-- what is known of any object that is asked -/
def Known (K : PySem.W.Frag) (H : Hp) (v : V) : Prop := (∃ z : Str, v = .str z ∧ z.length ≤ sizeLine) ∨ v = .non ∨ (∃ b, v = .bl b) ∨ (∃ i, v = .int i) ∨ ∃ a T, v = .ref a ∧ TyX K H v (.type T) ∧ T ∈ ["list", "tuple", "dict"]
abbrev sIsInteger : Stmt := topS 8
theorem scIsInteger : FnScope ["thing"] ["thing"] (defScope sIsInteger) := ⟨rfl, rfl, rfl, by decide +kernel, rfl, by decide +kernel, by decide +kernel⟩
def spIsInteger (K : PySem.W.Frag) : Sp := fun vs H Q _ => ∃ v, vs = [v] ∧ Known K H v ∧ Q (.bl (intV v)) H
theorem ok_IsInteger {f : Addr} {fd : FuncData} {k : Nat} (F : Fun K "is_integer" "is_integer" sIsInteger f fd) (B : Bl mg) : FnOk P w K mg base CX0 (k + 1) f fd ["thing"] (spIsInteger K) := by
  refine F.ok scIsInteger (fun vs H Q E h => ?_) (fun cdv A outer s H vs Q E hr h => ?_)
  · obtain ⟨v, rfl, _⟩ := h
    rfl
  obtain ⟨v, rfl, hv, q⟩ := h
  refine ⟨_, (pss_one (ps_ret (pe_and (pe_callB call_isi (by rfl) B.isinstance (by decide +kernel) (pa_cons (pv 0) (pa_cons (pe_bltn (v := .ty "int") (by rfl) B.int (by decide +kernel) rfl) pa_nil))) (pe_one (pe_not (pe_callB call_isi (by rfl) B.isinstance (by decide +kernel) (pa_cons (pv 0) (pa_cons (pe_bltn (v := .ty "bool") (by rfl) B.bool (by decide +kernel) rfl) pa_nil)))))))), ?_⟩
  rcases hv with ⟨z, rfl, hz⟩ | rfl | ⟨b, rfl⟩ | ⟨i, rfl⟩ | ⟨a, T, rfl, ht, hm⟩
  · exact ⟨_, rfl, _, _, _, _, _, rfl, .ty _, .base (.str z), kit_ty (r := false) (by decide +kernel), false, rfl, iteF q⟩
  · exact ⟨_, rfl, _, _, _, _, _, rfl, .ty _, .base .non, kit_ty (r := false) (by decide +kernel), false, rfl, iteF q⟩
  · exact ⟨_, rfl, _, _, _, _, _, rfl, .ty _, .base (.bl b), kit_ty (r := true) (by decide +kernel), true, rfl, iteT ⟨_, rfl, _, _, _, _, _, rfl, .ty _, .base (.bl b), kit_ty (r := true) (by decide +kernel), true, rfl, q⟩⟩
  · exact ⟨_, rfl, _, _, _, _, _, rfl, .ty _, .base (.int i), kit_ty (r := true) (by decide +kernel), true, rfl, iteT ⟨_, rfl, _, _, _, _, _, rfl, .ty _, .base (.int i), kit_ty (r := false) (by decide +kernel), false, rfl, q⟩⟩
  · have hk : kitB T "int" = some false := by
      have : ∀ T ∈ ["list", "tuple", "dict"], kitB T "int" = some false := by decide +kernel
      exact this T hm
    exact ⟨_, rfl, _, _, _, _, _, rfl, .ty _, ht, kit_ty hk, false, rfl, iteF q⟩
abbrev sIsWord : Stmt := topS 9
theorem scIsWord : FnScope ["thing", "sign"] ["thing"] (defScope sIsWord) := ⟨rfl, rfl, rfl, by decide +kernel, rfl, by decide +kernel, by decide +kernel⟩
def spIsWord (K : PySem.W.Frag) : Sp := fun vs H Q _ => ∃ v, vs = [v] ∧ Known K H v ∧ ∀ H', Same H H' → Q (.bl (wordV v)) H'
theorem ok_IsWord {f : Addr} {fd : FuncData} {k : Nat} {tL : Tok} (F : Fun K "is_word" "is_word" sIsWord f fd) (B : Bl mg) (mL : mg "LETTERS" = some (.str letters tL)) : FnOk P w K mg base CX0 (k + 1) f fd ["thing"] (spIsWord K) := by
  refine F.ok scIsWord (fun vs H Q E h => ?_) (fun cdv A outer s H vs Q E hr h => ?_)
  · obtain ⟨v, rfl, _⟩ := h
    rfl
  obtain ⟨v, rfl, hv, q⟩ := h
  refine ⟨_, (pss_cons (ps_if (pt_mid (PW.pt (pw_or (pt_not (pt_val (pe_callB call_isi (by rfl) B.isinstance (by decide +kernel) (pa_cons (pv 0) (pa_cons (pe_bltn (v := .ty "str") (by rfl) B.str (by decide +kernel) rfl) pa_nil))))) (pw_or1 (pt_not (pt_chain op_le op_le pe_int (pe_callB call_len_str (by rfl) B.len (by decide +kernel) (pa_cons (pv 0) pa_nil)) pe_int)))))) (pss_one (ps_ret pe_bl)) pss_nil)
      (pss_one (ps_ret (pe_callB (cr_all rfl) (by rfl) B.all (by decide +kernel) (pa_cons (pe_lc (own := [("sign", 1)]) (g := (gName 1)) (tt := tYes) (by rfl) scIsWord.nd (pi_str (pv 0)) (blkOk_by (own := [("sign", 1)]) (N := ["thing", "sign"]) (sc := defScope sIsWord) (by decide +kernel)) (fun _ _ _ _ _ => (pg_name (i := 1) scIsWord.nd rfl (by first | exact Or.inl rfl | exact Or.inr rfl))) (fun _ _ _ _ _ => pts_nil) (fun _ _ _ _ _ => (pe_cmpR op_in_sign (pv 1) (pe_glob (v := .str letters) (by rfl) mL ⟨_, rfl⟩) (by rfl)))) pa_nil))))), ?_⟩
  refine ⟨fun b H' => H = H' ∧ b = !lenV v, ?_, ?_⟩
  · have no : ∀ {T : String}, TyX K H v (.type T) → kitB T "str" = some false → lenV v = false → rIsi K [v, .ty "str"] H fun x H1 => ∃ k, x = V.bl k ∧ if (!k) = true then (H = H1 ∧ true = !lenV v) else False := fun {T} t hk hw =>
      ⟨_, _, _, _, _, rfl, .ty _, t, kit_ty hk, false, rfl, iteT ⟨rfl, by rw [hw]; rfl⟩⟩
    rcases hv with ⟨z, rfl, hz⟩ | rfl | ⟨b, rfl⟩ | ⟨i, rfl⟩ | ⟨a, T, rfl, ht, hm⟩
    · refine ⟨_, rfl, _, _, _, _, _, rfl, .ty _, .base (.str z), kit_ty (r := true) (by decide +kernel), true, rfl, iteF ?_⟩
      refine ⟨_, rfl, _, rfl, hz, 1, _, rfl, rfl, _, rfl, ite2 (fun c => ?_) (fun c => ?_)⟩
      · have c' : (1 : Int) ≤ z.length := of_decide_eq_true c
        refine ⟨_, 8, rfl, rfl, _, rfl, rfl, ?_⟩
        rw [lenV_str]
        have e1 : decide (1 ≤ z.length) = true := decide_eq_true (by omega)
        rw [e1, Bool.true_and]
        congr 1
        exact decide_eq_decide.mpr (by omega)
      · have c' : ¬ (1 : Int) ≤ z.length := fun h => c (decide_eq_true h)
        refine ⟨_, rfl, rfl, ?_⟩
        rw [lenV_str, decide_eq_false (show ¬ 1 ≤ z.length by omega)]
        rfl
    · exact ⟨_, rfl, _, _, _, _, _, rfl, .ty _, .base .non, kit_ty (r := false) (by decide +kernel), false, rfl, iteT ⟨rfl, rfl⟩⟩
    · exact ⟨_, rfl, _, _, _, _, _, rfl, .ty _, .base (.bl b), kit_ty (r := false) (by decide +kernel), false, rfl, iteT ⟨rfl, rfl⟩⟩
    · exact ⟨_, rfl, _, _, _, _, _, rfl, .ty _, .base (.int i), kit_ty (r := false) (by decide +kernel), false, rfl, iteT ⟨rfl, rfl⟩⟩
    · have hk : kitB T "str" = some false := by
        have : ∀ T ∈ ["list", "tuple", "dict"], kitB T "str" = some false := by decide +kernel
        exact this T hm
      exact ⟨_, rfl, _, _, _, _, _, rfl, .ty _, ht, kit_ty hk, false, rfl, iteT ⟨rfl, rfl⟩⟩
  rintro b _ ⟨rfl, rfl⟩
  cases hl : lenV v with
  | false =>
    refine iteT ?_
    have hw : wordV v = false := by
      cases v with
      | str z =>
        show isW z = false
        rw [lenV_str] at hl
        unfold isW
        rw [← Bool.and_assoc, hl]
        rfl
      | _ => rfl
    have := q H (Same.refl H)
    rw [hw] at this
    exact this
  | true =>
    refine iteF ?_
    obtain ⟨z, rfl⟩ : ∃ z, v = .str z := by
      cases v with
      | str z => exact ⟨z, rfl⟩
      | _ => cases hl
    have hw : wordV (.str z) = z.cps.toList.all fun c => decide (97 ≤ c) && decide (c ≤ 122) := by
      show isW z = _
      rw [lenV_str] at hl
      unfold isW
      rw [← Bool.and_assoc, hl]
      rfl
    have hsz : z.length ≤ 8 := by
      rw [lenV_str, Bool.and_eq_true] at hl
      exact of_decide_eq_true hl.2
    refine ⟨_, rfl, z, rfl, fun D nD => ?_⟩
    refine lc_it walk_str (fun i H' => Same H H' ∧ H' D = some (.lst (((z.cps.toList.take i).map fun c => decide (97 ≤ c) && decide (c ≤ 122)).map V.bl)))
      ⟨Same.new nD, upd_same⟩ (fun _ _ _ _ => trivial) ?_ ?_
    · rintro i x H1 H2 hi ⟨sm, hD⟩ ⟨rfl, c, hc, rfl⟩
      refine ⟨rfl, ?_⟩
      refine ⟨_, rfl, c, letters, rfl, rfl, _, hD, ?_, Same.upN sm nD, ?_⟩
      · rw [List.length_map, List.length_map, List.length_take]
        have : z.cps.toList.length = z.length := rfl
        exact small (by omega)
      · have hc' : z.cps.toList[i]? = some c := by rw [Array.getElem?_toList]; exact hc
        rw [upd_same, List.take_add_one, hc', List.map_append, List.map_append, letters_mem]
        rfl
    · rintro H1 ⟨sm, hD⟩
      have e : z.cps.toList.take z.cps.size = z.cps.toList := List.take_of_length_le (by simp)
      rw [e] at hD
      refine ⟨D, _, rfl, SqL.of hD, ?_⟩
      have e2 : ((z.cps.toList.map fun c => decide (97 ≤ c) && decide (c ≤ 122)).all id) = wordV (.str z) := by
        rw [hw, List.all_map]
        rfl
      rw [e2]
      exact q _ sm
end
end Ft
set_option Elab.async false
set_option linter.all false
set_option maxRecDepth 100000
set_option maxHeartbeats 4000000
namespace Ft
open PySem L2
theorem sl_seq {X : Cx} : SlR X (fun x lo hi H Q => rSlL X.K x lo hi H Q ∨ rSlT X.K x lo hi H Q) := SlR.or sl_list sl_tup
theorem TyOf.same {K : PySem.W.Frag} {H H' : Hp} {v : V} {t : Value} (h : TyOf K H v t) (s : Same H H') : TyOf K H' v t := by
  cases h with
  | non => exact .non
  | bl x => exact .bl x
  | int i => exact .int i
  | str x => exact .str x
  | flt x => exact .flt x
  | lst e => exact .lst (s _ _ e)
  | frz e => exact .frz (s _ _ e)
  | tup e => exact .tup (s _ _ e)
  | dK e => exact .dK (s _ _ e)
  | dT e => exact .dT (s _ _ e)
  | ins e a b c d f => exact .ins (s _ _ e) a b c d f
theorem TyX.same {K : PySem.W.Frag} {H H' : Hp} {v : V} {t : Value} (h : TyX K H v t) (s : Same H H') : TyX K H' v t := by
  cases h with
  | base h => exact .base (TyOf.same h s)
  | byt b => exact .byt b
  | set e => exact .set (s _ _ e)
  | kList e c => exact .kList e c
  | kTuple e c => exact .kTuple e c
  | kDict e c => exact .kDict e c
  | fTuple e => exact .fTuple (s _ _ e)
  | fDict e => exact .fDict (s _ _ e)
theorem Known.same {K : PySem.W.Frag} {H H' : Hp} {v : V} (h : Known K H v) (s : Same H H') : Known K H' v := by
  rcases h with h | h | h | h | ⟨a, T, e, t, m⟩
  · exact .inl h
  · exact .inr (.inl h)
  · exact .inr (.inr (.inl h))
  · exact .inr (.inr (.inr (.inl h)))
  · exact .inr (.inr (.inr (.inr ⟨a, T, e, TyX.same t s, m⟩)))
/-- .. and whether it is a list or a tuple -/
def KnownS (K : PySem.W.Frag) (H : Hp) (sq : V → Bool) (v : V) : Prop := Known K H v ∧ ∃ T, TyX K H v (.type T) ∧ kitAnyB T ["list", "tuple"] = some (sq v)
theorem KnownS.same {K : PySem.W.Frag} {H H' : Hp} {sq : V → Bool} {v : V} (h : KnownS K H sq v) (s : Same H H') : KnownS K H' sq v := by
  obtain ⟨h1, T, h2, h3⟩ := h
  exact ⟨h1.same s, T, TyX.same h2 s, h3⟩
theorem rIx_seq {kd : Bool} {K : PySem.W.Frag} {H : Hp} {a : Addr} {xs : List V} {i : Int} {v : V} {Q : VK} (h : Sq kd K H a xs) (e : atI xs i = some v) (q : Q v H) : rIx K (.ref a) (.int i) H Q := by
  cases kd with
  | true => exact .inl ⟨a, xs, i, v, rfl, rfl, h, e, q⟩
  | false => exact .inr (.inl ⟨a, xs, i, v, rfl, rfl, h, e, q⟩)
def fieldsT : List (Str × List Str) := [("load", ["word", "word"]), ("pick", ["word", "word", "word"]), ("put", ["word", "number"]), ("copy", ["word", "word"]), ("part", ["word", "word", "word"]), ("drop", ["word"]), ("say", ["number"]), ("tell", ["word"]), ("seen", ["word", "word"]), ("fail", ["number"]), ("make", ["word", "block"]), ("call", ["word"]), ("when", ["word", "block", "block"]), ("try", ["block", "block"])]
def fieldsOf (z : Str) : Option (List Str) := (fieldsT.find? fun p => decide (p.1 = z)).map (·.2)
theorem fieldsOf_some {z : Str} {fs : List Str} (h : fieldsOf z = some fs) : (z, fs) ∈ fieldsT := by
  unfold fieldsOf at h
  obtain ⟨p, hp, e⟩ := Option.map_eq_some_iff.mp h
  have h1 := List.mem_of_find?_eq_some hp
  have h2 : p.1 = z := by simpa using List.find?_some hp
  rw [← h2, ← e]
  exact h1
theorem fieldsOf_none {z : Str} (h : fieldsOf z = none) : z ∉ fieldsT.map (·.1) := by
  intro hz
  obtain ⟨p, hp, e⟩ := List.mem_map.mp hz
  unfold fieldsOf at h
  have := List.find?_eq_none.mp (Option.map_eq_none_iff.mp h) p hp
  exact this (decide_eq_true e)
theorem fields_len {z : Str} {fs : List Str} (h : (z, fs) ∈ fieldsT) : fs.length ≤ 3 := by
  have : ∀ p ∈ fieldsT, p.2.length ≤ 3 := by decide +kernel
  exact this _ h
/-- the written table of the fields -/
structure FldT (K : PySem.W.Frag) (w : World) (mg : Str → Option Value) (dF : Addr) : Prop where
  g : mg "FIELDS" = some (.ref dF)
  dict : ∃ es n, KDict K w dF es n
  val : ∀ p ∈ fieldsT, ∃ tA, PySem.W.nsIn K dF p.1 = some (some (.ref tA)) ∧ ∀ H, SqT K H tA (p.2.map V.str)
  no : ∀ z, z ∉ fieldsT.map (·.1) → PySem.W.nsIn K dF z = some none
def fieldB (sq : V → Bool) (f : Str) (v : V) : Bool := if f = "word" then wordV v else if f = "number" then intV v else sq v
/-- whether things are a row, but for the rows in its blocks -/
def rowB (sq : V → Bool) (wi : Bool) : List V → Bool
  | .str z :: rest => match fieldsOf z with
    | some fs => !(wi && (decide (z = "make") || decide (z = "call"))) && (decide (rest.length = fs.length) && ((fs.zip rest).all fun p => fieldB sq p.1 p.2))
    | none => false
  | _ => false
theorem rowB_str (sq : V → Bool) (wi : Bool) (z : Str) (rest : List V) : rowB sq wi (.str z :: rest) = match fieldsOf z with
    | some fs => !(wi && (decide (z = "make") || decide (z = "call"))) && (decide (rest.length = fs.length) && ((fs.zip rest).all fun p => fieldB sq p.1 p.2))
    | none => false := rfl
section
variable {P : Program} {w : World} {K : PySem.W.Frag} {mg : Str → Option Value} {base : Heap}
abbrev sIsField : Stmt := topS 14
theorem scIsField : FnScope ["field", "part"] ["field", "part"] (defScope sIsField) := ⟨rfl, rfl, rfl, by decide +kernel, rfl, by decide +kernel, by decide +kernel⟩
def spIsField (K : PySem.W.Frag) : Sp := fun vs H Q _ => ∃ (f : Str) (v : V) (sq : V → Bool), vs = [.str f, v] ∧ KnownS K H sq v ∧ ∀ H', Same H H' → Q (.bl (fieldB sq f v)) H'
theorem ok_IsField {f : Addr} {fd : FuncData} {k : Nat} (F : Fun K "is_field" "is_field" sIsField f fd) (B : Bl mg) (gIsWord : Own P w K mg base k "is_word" ["thing"] (spIsWord K)) (gIsInteger : Own P w K mg base k "is_integer" ["thing"] (spIsInteger K)) : FnOk P w K mg base CX0 (k + 1) f fd ["field", "part"] (spIsField K) := by
  refine F.ok scIsField (fun vs H Q E h => ?_) (fun cdv A outer s H vs Q E hr h => ?_)
  · obtain ⟨f, v, sq, rfl, _⟩ := h
    rfl
  obtain ⟨f, v, sq, rfl, hv, q⟩ := h
  refine ⟨_, (pss_cons (ps_if (pt_cmpR op_eq (pv 0) pe_str (nomark _)) (pss_one (ps_ret (pe_own gIsWord (hr.mono (by omega)) (by rfl) (pa_cons (pv 1) pa_nil)))) pss_nil)
      (pss_cons (ps_if (pt_cmpR op_eq (pv 0) pe_str (nomark _)) (pss_one (ps_ret (pe_own gIsInteger (hr.mono (by omega)) (by rfl) (pa_cons (pv 1) pa_nil)))) pss_nil)
      (pss_one (ps_ret (pe_callB call_isiT (by rfl) B.isinstance (by decide +kernel) (pa_cons (pv 1) (pa_cons (pe_tup (pa_cons (pe_bltn (v := .ty "list") (by rfl) B.list (by decide +kernel) rfl) (pa_cons (pe_bltn (v := .ty "tuple") (by rfl) B.tuple (by decide +kernel) rfl) pa_nil))) pa_nil))))))), ?_⟩
  refine ⟨_, rfl, rfl, _, rfl, ite2 (fun c => ?_) (fun c => ?_)⟩
  · have e : f = "word" := V.str.inj (of_decide_eq_true c)
    refine ⟨_, rfl, v, rfl, hv.1, fun H' sm => ?_⟩
    have := q H' sm
    unfold fieldB at this
    rw [if_pos e] at this
    exact this
  · have e : ¬ f = "word" := fun h => c (by rw [h]; exact decide_eq_true rfl)
    refine ⟨_, rfl, rfl, _, rfl, ite2 (fun c2 => ?_) (fun c2 => ?_)⟩
    · have e2 : f = "number" := V.str.inj (of_decide_eq_true c2)
      refine ⟨_, rfl, v, rfl, hv.1, ?_⟩
      have := q H (Same.refl H)
      unfold fieldB at this
      rw [if_neg e, if_pos e2] at this
      exact this
    · have e2 : ¬ f = "number" := fun h => c2 (by rw [h]; exact decide_eq_true rfl)
      obtain ⟨h1, T, h2, h3⟩ := hv
      refine ⟨_, rfl, (by show 2 ≤ sizeLine; decide), fun t0 nt => ?_⟩
      have := q _ (Same.new (o := .tup [.ty "list", .ty "tuple"]) nt)
      unfold fieldB at this
      rw [if_neg e, if_neg e2] at this
      exact ⟨_, t0, _, _, _, _, rfl, upd_same, clsV_all ["list", "tuple"], TyX.same h2 (Same.new nt), kitAny_of h3, this⟩
abbrev sIsRow : Stmt := topS 15
theorem scIsRow : FnScope ["thing", "is_within", "fields", "field", "part"] ["thing", "is_within"] (defScope sIsRow) := ⟨rfl, rfl, rfl, by decide +kernel, rfl, by decide +kernel, by decide +kernel⟩
def spIsRow (K : PySem.W.Frag) : Sp := fun vs H Q _ => ∃ (v : V) (wi : Bool), vs = [v, .bl wi] ∧
  ((∃ T, TyX K H v (.type T) ∧ kitAnyB T ["list", "tuple"] = some false ∧ ∀ H', Same H H' → Q (.bl false) H') ∨
   ∃ (a : Addr) (kd : Bool) (xs : List V) (sq : V → Bool), v = .ref a ∧ H a = some (mkO kd xs) ∧ xs.length ≤ 1000 ∧ (∀ x ∈ xs, KnownS K H sq x) ∧ ∀ H', Same H H' → Q (.bl (rowB sq wi xs)) H')
theorem ok_IsRow {f dF : Addr} {fd : FuncData} {k : Nat} (F : Fun K "is_row" "is_row" sIsRow f fd) (B : Bl mg) (TF : FldT K w mg dF) (gIsField : Own P w K mg base k "is_field" ["field", "part"] (spIsField K)) : FnOk P w K mg base CX0 (k + 1) f fd ["thing", "is_within"] (spIsRow K) := by
  obtain ⟨es, nn, D⟩ := TF.dict
  refine F.ok scIsRow (fun vs H Q E h => ?_) (fun cdv A outer s H vs Q E hr h => ?_)
  · obtain ⟨v, wi, rfl, _⟩ := h
    rfl
  obtain ⟨v, wi, rfl, hv⟩ := h
  refine ⟨_, (pss_cons (ps_if (PW.pt (pw_or (pt_not (pt_val (pe_callB call_isiT (by rfl) B.isinstance (by decide +kernel) (pa_cons (pv 0) (pa_cons (pe_tup (pa_cons (pe_bltn (v := .ty "list") (by rfl) B.list (by decide +kernel) rfl) (pa_cons (pe_bltn (v := .ty "tuple") (by rfl) B.tuple (by decide +kernel) rfl) pa_nil))) pa_nil))))) (pw_or1 (pt_cmpR op_eq (pe_callB call_len_seq (by rfl) B.len (by decide +kernel) (pa_cons (pv 0) pa_nil)) pe_int (nomark _))))) (pss_one (ps_ret pe_bl)) pss_nil)
      (pss_cons (ps_if (pt_mid (PW.pt (pw_or (pt_not (pt_val (pe_callB call_isi (by rfl) B.isinstance (by decide +kernel) (pa_cons (pe_ix ix_seq (pv 0) pe_int (fun _ _ => rfl)) (pa_cons (pe_bltn (v := .ty "str") (by rfl) B.str (by decide +kernel) rfl) pa_nil))))) (pw_or (pt_cmpR (op_notIn_kd D) (pe_ix ix_seq (pv 0) pe_int (fun _ _ => rfl)) (pe_glob (v := .ref dF) (by rfl) TF.g rfl) (by rfl)) (pw_or1 (PW.pt (pw_and (pt_val (pv 1)) (pw_and1 (pt_cmpR op_in_seq (pe_ix ix_seq (pv 0) pe_int (fun _ _ => rfl)) (pe_tup (pa_cons pe_str (pa_cons pe_str pa_nil))) (by rfl)))))))))) (pss_one (ps_ret pe_bl)) pss_nil)
      (pss_cons (ps_set (i := 2) scIsRow.nd rfl (by first | exact Or.inl rfl | exact Or.inr rfl) (pe_ix ix_kdict (pe_glob (v := .ref dF) (by rfl) TF.g rfl) (pe_ix ix_seq (pv 0) pe_int (fun _ _ => rfl)) (fun _ _ => rfl)))
      (pss_one (ps_ret (pe_and (pe_cmpR op_eq (pe_callB call_len_seq (by rfl) B.len (by decide +kernel) (pa_cons (pv 0) pa_nil)) (pe_op op_add (pe_callB call_len_seq (by rfl) B.len (by decide +kernel) (pa_cons (pv 2) pa_nil)) pe_int) (nomark _)) (pe_one (pe_callB (cr_all rfl) (by rfl) B.all (by decide +kernel) (pa_cons (pe_lc (own := [("field", 3), ("part", 4)]) (g := (gTup _ 2 (gCons (gName 3) (gCons (gName 4) gNil)))) (tt := tYes) (by rfl) scIsRow.nd (pi_zipQ (by rfl) B.zip (pa_cons (pv 2) (pa_cons (pe_mid (pe_slice sl_seq (pv 0) (po_some pe_int) po_none)) pa_nil))) (blkOk_by (own := [("field", 3), ("part", 4)]) (N := ["thing", "is_within", "fields", "field", "part"]) (sc := defScope sIsRow) (by decide +kernel)) (fun _ _ _ _ _ => (pg_tup (by rfl) (pgs_cons (pg_name (i := 3) scIsRow.nd rfl (by first | exact Or.inl rfl | exact Or.inr rfl)) (pgs_cons (pg_name (i := 4) scIsRow.nd rfl (by first | exact Or.inl rfl | exact Or.inr rfl)) pgs_nil)))) (fun _ _ _ _ _ => pts_nil) (fun _ _ _ _ _ => (pe_own gIsField (hr.mono (by omega)) (by rfl) (pa_cons (pv 3) (pa_cons (pv 4) pa_nil))))) pa_nil))))))))), ?_⟩
  have lt : ∀ t0, H t0 = none → (upd H t0 (.tup [.ty "list", .ty "tuple"])) t0 = some (.tup ((["list", "tuple"] : List String).map V.ty)) := fun _ _ => upd_same
  refine ⟨_, rfl, (by show 2 ≤ sizeLine; decide), fun t0 nt => ?_⟩
  have s0 : Same H (upd H t0 (.tup [.ty "list", .ty "tuple"])) := Same.new nt
  rcases hv with ⟨T, h1, h2, q⟩ | ⟨a, kd, xs, sq, rfl, ha, hlen, hxs, q⟩
  · exact ⟨_, t0, _, _, _, _, rfl, upd_same, clsV_all ["list", "tuple"], TyX.same h1 s0, kitAny_of h2, false, rfl, iteT (q _ s0)⟩
  have ha0 := s0 _ _ ha
  refine ⟨_, t0, _, _, _, _, rfl, upd_same, clsV_all ["list", "tuple"], seq_ty ha0, kitAny_of (seq_lt kd), true, rfl, iteF ?_⟩
  refine ⟨_, rfl, a, xs, rfl, sqa_of (sq_of ha0), rfl, _, rfl, ?_⟩
  cases xs with
  | nil => exact iteT (q _ s0)
  | cons x0 rest =>
    have e0 : decide (V.int (((x0 :: rest : List V).length : Nat) : Int) = V.int 0) = false := decide_eq_false (fun e => by
      have := V.int.inj e
      simp at this
      omega)
    rw [e0]
    refine iteF ?_
    generalize hG : upd H t0 _ = G at *
    have hx0 : KnownS K G sq x0 := (hxs x0 (by simp)).same s0
    have ix : ∀ {Q' : VK}, Q' x0 G → rIx K (.ref a) (.int 0) G Q' := fun h => rIx_seq (sq_of ha0) (atI_nat (j := 0) rfl) h
    -- no word of a row at all
    have no : (∀ z, x0 ≠ .str z) → rowB sq wi (x0 :: rest) = false := fun h => by
      unfold rowB
      cases x0 with
      | str z => exact absurd rfl (h z)
      | _ => rfl
    have noQ : ∀ H', Same H H' → rowB sq wi (x0 :: rest) = false → Q (.bl false) H' := fun H' sm e => by
      have := q H' sm
      rw [e] at this
      exact this
    refine ⟨fun b H' => Same H H' ∧ (b = true → rowB sq wi (x0 :: rest) = false) ∧ (b = false → ∃ z fs, x0 = .str z ∧ fieldsOf z = some fs ∧ (wi && (decide (z = "make") || decide (z = "call"))) = false), ?_, ?_⟩
    · rcases hx0.1 with ⟨z, rfl, hz⟩ | rfl | ⟨b, rfl⟩ | ⟨i, rfl⟩ | ⟨a', T, rfl, ht, hm⟩
      rotate_left
      · exact ⟨_, rfl, ix ⟨_, _, _, _, _, rfl, .ty _, .base .non, kit_ty (r := false) (by decide +kernel), false, rfl, iteT ⟨s0, fun _ => no fun z e => (nomatch e), fun e => (nomatch e)⟩⟩⟩
      · exact ⟨_, rfl, ix ⟨_, _, _, _, _, rfl, .ty _, .base (.bl b), kit_ty (r := false) (by decide +kernel), false, rfl, iteT ⟨s0, fun _ => no fun z e => (nomatch e), fun e => (nomatch e)⟩⟩⟩
      · exact ⟨_, rfl, ix ⟨_, _, _, _, _, rfl, .ty _, .base (.int i), kit_ty (r := false) (by decide +kernel), false, rfl, iteT ⟨s0, fun _ => no fun z e => (nomatch e), fun e => (nomatch e)⟩⟩⟩
      · have hk : kitB T "str" = some false := by
          have : ∀ T ∈ ["list", "tuple", "dict"], kitB T "str" = some false := by decide +kernel
          exact this T hm
        exact ⟨_, rfl, ix ⟨_, _, _, _, _, rfl, .ty _, ht, kit_ty hk, false, rfl, iteT ⟨s0, fun _ => no fun z e => (nomatch e), fun e => (nomatch e)⟩⟩⟩
      refine ⟨_, rfl, ix ⟨_, _, _, _, _, rfl, .ty _, .base (.str z), kit_ty (r := true) (by decide +kernel), true, rfl, iteF ?_⟩⟩
      -- thing[0] not in FIELDS
      cases hf : fieldsOf z with
      | none =>
        have e : rowB sq wi (.str z :: rest) = false := by
          rw [rowB_str, hf]
        exact ⟨_, rfl, ix ⟨z, none, rfl, rfl, TF.no z (fieldsOf_none hf), true, rfl, iteT ⟨s0, fun _ => e, fun e => (nomatch e)⟩⟩⟩
      | some fs =>
        have hfs := fieldsOf_some hf
        obtain ⟨tA, hn, htA⟩ := TF.val _ hfs
        refine ⟨_, rfl, ix ⟨z, some (.ref tA), rfl, rfl, hn, false, rfl, iteF ?_⟩⟩
        cases wi with
        | false => exact ⟨_, rfl, false, rfl, iteF ⟨s0, fun e => (nomatch e), fun _ => ⟨z, fs, rfl, hf, rfl⟩⟩⟩
        | true =>
          refine ⟨_, rfl, true, rfl, iteT ⟨_, rfl, ix ⟨(by show 2 ≤ sizeLine; decide), fun t1 nt1 => ?_⟩⟩⟩
          have mc : inV (.str z) [.str "make", .str "call"] = (decide (z = "make") || decide (z = "call")) := by
            show (eqV (.str "make") (.str z) || (eqV (.str "call") (.str z) || false)) = _
            rw [Bool.or_false]
            have h1 : ∀ a b : Str, eqV (.str a) (.str b) = decide (b = a) := fun a b => by
              show (a == b) = _
              by_cases e : b = a
              · rw [e]; simp
              · have e' : ¬ a = b := fun h => e h.symm
                simp [e, e']
            rw [h1, h1]
          refine ⟨t1, _, rfl, .inr (SqT.of upd_same), rfl, rfl, _, rfl, Same.trans s0 (Same.new nt1), fun e => ?_, fun e => ⟨z, fs, rfl, hf, ?_⟩⟩
          · have e' : (decide (z = "make") || decide (z = "call")) = true := by rw [← mc]; exact e
            rw [rowB_str, hf]
            show (!(true && (decide (z = "make") || decide (z = "call"))) && _) = false
            rw [e']
            rfl
          · rw [Bool.true_and, ← mc]
            exact e
    rintro b G2 ⟨sm, hT, hF⟩
    cases b with
    | true => exact iteT (noQ _ sm (hT rfl))
    | false =>
      refine iteF ?_
      obtain ⟨z, fs, rfl, hf, hno⟩ := hF rfl
      have hfs := fieldsOf_some hf
      obtain ⟨tA, hn, htA⟩ := TF.val _ hfs
      have er : rowB sq wi (.str z :: rest) = (decide (rest.length = fs.length) && ((fs.zip rest).all fun p => fieldB sq p.1 p.2)) := by
        rw [rowB_str, hf]
        show (!(wi && (decide (z = "make") || decide (z = "call"))) && _) = _
        rw [hno]
        rfl
      have ha2 : G2 a = some (mkO kd (.str z :: rest)) := sm _ _ ha
      have ix2 : ∀ {Q' : VK}, Q' (.str z) G2 → rIx K (.ref a) (.int 0) G2 Q' := fun h => rIx_seq (sq_of ha2) (atI_nat (j := 0) rfl) h
      refine ⟨_, rfl, ix2 ⟨dF, z, .ref tA, rfl, rfl, ⟨es, nn, .ref tA, D.at_, D.lit, hn, rfl⟩, ?_⟩⟩
      have l3 := fields_len hfs
      -- the length
      refine ⟨_, rfl, a, _, rfl, sqa_of (sq_of ha2), _, rfl, tA, _, rfl, .inr (htA G2), _, 1, rfl, rfl, rfl, _, rfl, ?_⟩
      have el : decide (V.int ((((.str z :: rest : List V)).length : Nat) : Int) = V.int ((((fs.map V.str).length : Nat) : Int) + 1)) = decide (rest.length = fs.length) := decide_eq_decide.mpr (by
        rw [List.length_map, List.length_cons]
        constructor
        · intro e
          have := V.int.inj e
          omega
        · intro e
          rw [e]
          rfl)
      refine ite2 (fun c => ?_) (fun c => ?_)
      · have c' : rest.length = fs.length := of_decide_eq_true (el.symm.trans c)
        -- all of the fields
        have cutq : cutV (.str z :: rest) (some 1) none = rest := by
          unfold cutV
          rw [show HT.sIx (V.str z :: rest).length 0 (some 1) = min 1 (V.str z :: rest).length from HT.sIx_nat _ 0 1, HT.sIx_none]
          rw [show min 1 (V.str z :: rest).length = 1 by rw [List.length_cons]; omega]
          show List.take (rest.length + 1 - 1) rest = rest
          rw [Nat.add_sub_cancel, List.take_length]
        refine ⟨_, rfl, ⟨fun v H' => ∃ p kd2, v = .ref p ∧ H' p = some (mkO kd2 rest) ∧ Same G2 H', ?_, ?_⟩⟩
        · have whole : ¬ (HT.sIx (V.str z :: rest).length 0 (some 1) = 0 ∧ HT.sIx (V.str z :: rest).length (V.str z :: rest).length none = (V.str z :: rest).length) := fun ⟨e, _⟩ => by
            rw [show HT.sIx (V.str z :: rest).length 0 (some 1) = min 1 (V.str z :: rest).length from HT.sIx_nat _ 0 1, List.length_cons] at e
            omega
          cases kd with
          | true => exact ⟨_, rfl, 1, rfl, .inl ⟨a, _, rfl, SqL.of ha2, fun p np => ⟨p, true, rfl, by rw [upd_same, cutq]; rfl, Same.new np⟩⟩⟩
          | false => exact ⟨_, rfl, 1, rfl, .inr ⟨a, _, rfl, SqT.of ha2, whole, fun p np => ⟨p, false, rfl, by rw [upd_same, cutq]; rfl, Same.new np⟩⟩⟩
        rintro v G3 ⟨p, kd2, rfl, hp3, sm3⟩
        refine ⟨tA, p, false, kd2, fs.map V.str, rest, rfl, htA G3, sq_of hp3, fun L nL => ?_⟩
        have lm : (fs.map V.str).length = fs.length := List.length_map _
        refine lc_it (walk_zipQ (n := fs.length) (by rw [lm]; omega)) (fun i H' => Same G3 H' ∧ H' L = some (.lst ((((fs.zip rest).take i).map fun p => fieldB sq p.1 p.2).map V.bl)))
          ⟨Same.new nL, upd_same⟩ (fun i H' _ ⟨s4, _⟩ => ⟨htA H', sq_of (s4 _ _ hp3)⟩) ?_ ?_
        · rintro i x H1 H2 hi ⟨s4, hL⟩ ⟨T, x1, x2, rfl, nT, rfl, e1, e2⟩
          obtain ⟨ff, hff, rfl⟩ : ∃ ff, fs[i]? = some ff ∧ x1 = .str ff := by
            have e1' : (fs.map V.str)[i]? = some x1 := e1
            rw [List.getElem?_map] at e1'
            obtain ⟨ff, h1, h2⟩ := Option.map_eq_some_iff.mp e1'
            exact ⟨ff, h1, h2.symm⟩
          have s5 : Same G3 (upd H1 T (.tup [.str ff, x2])) := Same.trans s4 (Same.new nT)
          have kn : KnownS K (upd H1 T (.tup [.str ff, x2])) sq x2 := (hxs x2 (List.mem_cons_of_mem _ (List.mem_of_getElem? e2))).same (Same.trans sm (Same.trans sm3 s5))
          refine ⟨T, _, rfl, SqT.of upd_same, rfl, _, _, rfl, _, _, rfl, rfl, rfl, ?_⟩
          refine ⟨_, rfl, _, rfl, ff, x2, sq, rfl, kn, fun H3 s6 => ?_⟩
          have nLT : L ≠ T := ne_of_none hL nT
          have hL3 : H3 L = some (.lst ((((fs.zip rest).take i).map fun p => fieldB sq p.1 p.2).map V.bl)) := s6 _ _ (by rw [upd_ne nLT]; exact hL)
          refine ⟨_, hL3, ?_, Same.upN (Same.trans s5 s6) nL, ?_⟩
          · rw [List.length_map, List.length_map, List.length_take]
            exact small (by omega)
          · have ez : (fs.zip rest)[i]? = some (ff, x2) := List.getElem?_zip_eq_some.mpr ⟨hff, e2⟩
            rw [upd_same, List.take_add_one, ez, List.map_append, List.map_append]
            rfl
        · rintro H1 ⟨s4, hL⟩
          have e : (fs.zip rest).take fs.length = fs.zip rest := List.take_of_length_le (by rw [List.length_zip]; omega)
          rw [e] at hL
          refine ⟨L, _, rfl, SqL.of hL, ?_⟩
          have e2 : (((fs.zip rest).map fun p => fieldB sq p.1 p.2).all id) = rowB sq wi (.str z :: rest) := by
            rw [er, decide_eq_true c', Bool.true_and, List.all_map]
            rfl
          rw [e2]
          exact q _ (Same.trans sm (Same.trans sm3 s4))
      · have c' : ¬ rest.length = fs.length := fun e => c (el.trans (decide_eq_true e))
        have e : rowB sq wi (.str z :: rest) = false := by rw [er, decide_eq_false c']; rfl
        exact noQ _ sm e
end
end Ft
set_option Elab.async false
set_option linter.all false
set_option maxRecDepth 100000
set_option maxHeartbeats 4000000
namespace Ft
open PySem L2
def rowWord : Row → Str
  | .plain w _ => w
  | .make _ _ => "make"
  | .when _ _ _ => "when"
  | .try_ _ _ => "try"
def blocks : Row → List (List Row)
  | .plain _ _ => []
  | .make _ b => [b]
  | .when _ b c => [b, c]
  | .try_ b c => [b, c]
inductive Fl where
  | at (v : V)
  | blk (b : List Row)
def flds : Row → List (Str × Fl)
  | .plain w fs => ((fieldsOf w).getD []).zip (fs.map Fl.at)
  | .make n b => [("word", .at (.str n)), ("block", .blk b)]
  | .when n b c => [("word", .at (.str n)), ("block", .blk b), ("block", .blk c)]
  | .try_ b c => [("block", .blk b), ("block", .blk c)]
def FlAt (ok : Addr → Prop) (kk : Bool → Bool → Prop) (H : Hp) (d : Nat) (v : V) : Fl → Prop
  | .at x => v = x
  | .blk b => ∃ e, d = e + 1 ∧ RowsAt ok kk H e v b
def FlOk (d : Nat) (wi : Bool) (name : Str) : Fl → Prop
  | .at x => (name = "word" ∧ wordV x = true) ∨ (name = "number" ∧ ∃ i, x = .int i ∧ -999 ≤ i ∧ i ≤ 999)
  | .blk b => name = "block" ∧ ∃ e, d = e + 1 ∧ b.length ≤ 24 ∧ ∀ r ∈ b, RowOk e wi r
theorem plainT_fields : ∀ p ∈ plainT, fieldsOf p.1 = some (p.2.map fun b => if b then ("word" : Str) else "number") := by decide +kernel
theorem plainT_make : ∀ p ∈ plainT, p.1 ≠ "make" := by decide +kernel
theorem fld_plain {k : Bool} {v : V} (h : fldOk k v = true) (d : Nat) (wi : Bool) : FlOk d wi (if k then "word" else "number") (.at v) := by
  cases k with
  | true =>
    cases v with
    | str z => exact .inl ⟨rfl, h⟩
    | _ => cases h
  | false =>
    cases v with
    | int i =>
      unfold fldOk at h
      rw [Bool.and_eq_true] at h
      exact .inr ⟨rfl, i, rfl, of_decide_eq_true h.1, of_decide_eq_true h.2⟩
    | _ => cases h
theorem flds_plain {wi : Bool} {w : Str} {fs : List V} (h : plainOk wi w fs) (d : Nat) (wi' : Bool) : ∃ names, fieldsOf w = some names ∧ names.length = fs.length ∧ (names.zip (fs.map Fl.at)).map (·.1) = names ∧ ∀ f ∈ names.zip (fs.map Fl.at), FlOk d wi' f.1 f.2 := by
  obtain ⟨ks, hk, hp, _⟩ := h
  have e := plainT_fields _ hk
  have hl := paired_len hp
  have go : ∀ {ks : List Bool} {fs : List V}, Paired (fun k v => fldOk k v = true) ks fs → ((ks.map fun b => if b then ("word" : Str) else "number").zip (fs.map Fl.at)).map (·.1) = (ks.map fun b => if b then ("word" : Str) else "number") ∧ ∀ f ∈ (ks.map fun b => if b then ("word" : Str) else "number").zip (fs.map Fl.at), FlOk d wi' f.1 f.2 := by
    intro ks fs h
    induction h with
    | nil => exact ⟨rfl, fun f hf => by cases hf⟩
    | cons r t ih =>
      refine ⟨by rw [List.map_cons, List.map_cons, List.zip_cons_cons, List.map_cons, ih.1], fun f hf => ?_⟩
      rw [List.map_cons, List.map_cons, List.zip_cons_cons] at hf
      rcases List.mem_cons.mp hf with e | hf
      · rw [e]; exact fld_plain r d wi'
      · exact ih.2 f hf
  exact ⟨_, e, by rw [List.length_map]; exact hl, (go hp).1, (go hp).2⟩
structure RowF (d : Nat) (wi : Bool) (r : Row) : Prop where
  names : fieldsOf (rowWord r) = some ((flds r).map (·.1))
  ok : ∀ f ∈ flds r, FlOk d (wi || decide (rowWord r = "make")) f.1 f.2
  few : (flds r).length ≤ 3
  one : 1 ≤ (flds r).length
  word : (wi && (decide (rowWord r = "make") || decide (rowWord r = "call"))) = false
  blk : blocks r = (flds r).filterMap fun f => match f.2 with
    | .blk b => some b
    | .at _ => none
theorem rowF_of {wi : Bool} {r : Row} : ∀ {d : Nat}, RowOk d wi r → RowF d wi r := by
  intro d h
  have plain : ∀ {w : Str} {fs : List V}, plainOk wi w fs → RowF d wi (.plain w fs) := by
    intro w fs h
    obtain ⟨ks, hk, hp, hc⟩ := id h
    have nm : w ≠ "make" := plainT_make _ hk
    obtain ⟨names, e, hl, hz, hok⟩ := flds_plain h d (wi || decide (w = "make"))
    have ef : flds (.plain w fs) = names.zip (fs.map Fl.at) := by
      show ((fieldsOf w).getD []).zip (fs.map Fl.at) = _
      rw [e]; rfl
    have f3 := (plain_atoms h).2
    have f1 : ∀ p ∈ plainT, 1 ≤ p.2.length := by decide +kernel
    have l1 := f1 _ hk
    have l2 := paired_len hp
    refine ⟨by rw [ef, hz]; exact e, by rw [ef]; exact hok, ?_, ?_, ?_, ?_⟩
    · rw [ef, List.length_zip, List.length_map]; omega
    · rw [ef, List.length_zip, List.length_map]
      have : 1 ≤ ks.length := l1
      omega
    · cases wi with
      | false => rfl
      | true =>
        show (decide (w = "make") || decide (w = "call")) = false
        rw [decide_eq_false nm, decide_eq_false (hc rfl)]
        rfl
    · rw [ef]
      show [] = _
      symm
      rw [List.filterMap_eq_nil_iff]
      intro f hf
      obtain ⟨v, _, hv⟩ := List.mem_map.mp (List.of_mem_zip hf).2
      rw [← hv]
  cases d with
  | zero =>
    cases r with
    | plain w fs => exact plain h
    | _ => exact h.elim
  | succ d =>
    cases r with
    | plain w fs => exact plain h
    | make n b =>
      obtain ⟨h1, h2, h3, h4⟩ := h
      subst h1
      refine ⟨by show fieldsOf "make" = some (["word", "block"] : List Str); decide +kernel, fun f hf => ?_, by show 2 ≤ 3; decide, by show 1 ≤ 2; decide, rfl, rfl⟩
      rcases List.mem_cons.mp hf with e | hf
      · rw [e]; exact .inl ⟨rfl, h2⟩
      · rw [List.mem_singleton.mp hf]
        exact ⟨rfl, d, rfl, h3, h4⟩
    | when n b c =>
      obtain ⟨h1, h2, h3, h4, h5⟩ := h
      have ew : (wi || decide (rowWord (.when n b c) = "make")) = wi := by
        show (wi || decide (("when" : Str) = "make")) = wi
        rw [show decide (("when" : Str) = "make") = false by decide +kernel, Bool.or_false]
      refine ⟨by show fieldsOf "when" = some (["word", "block", "block"] : List Str); decide +kernel, fun f hf => ?_, by show 3 ≤ 3; decide, by show 1 ≤ 3; decide, ?_, rfl⟩
      · rw [ew]
        rcases List.mem_cons.mp hf with e | hf
        · rw [e]; exact .inl ⟨rfl, h1⟩
        · rcases List.mem_cons.mp hf with e | hf
          · rw [e]; exact ⟨rfl, d, rfl, h2, h4⟩
          · rw [List.mem_singleton.mp hf]; exact ⟨rfl, d, rfl, h3, h5⟩
      · show (wi && (decide (("when" : Str) = "make") || decide (("when" : Str) = "call"))) = false
        rw [show decide (("when" : Str) = "make") = false by decide +kernel, show decide (("when" : Str) = "call") = false by decide +kernel, Bool.or_false, Bool.and_false]
    | try_ b c =>
      obtain ⟨h2, h3, h4, h5⟩ := h
      have ew : (wi || decide (rowWord (.try_ b c) = "make")) = wi := by
        show (wi || decide (("try" : Str) = "make")) = wi
        rw [show decide (("try" : Str) = "make") = false by decide +kernel, Bool.or_false]
      refine ⟨by show fieldsOf "try" = some (["block", "block"] : List Str); decide +kernel, fun f hf => ?_, by show 2 ≤ 3; decide, by show 1 ≤ 2; decide, ?_, rfl⟩
      · rw [ew]
        rcases List.mem_cons.mp hf with e | hf
        · rw [e]; exact ⟨rfl, d, rfl, h2, h4⟩
        · rw [List.mem_singleton.mp hf]; exact ⟨rfl, d, rfl, h3, h5⟩
      · show (wi && (decide (("try" : Str) = "make") || decide (("try" : Str) = "call"))) = false
        rw [show decide (("try" : Str) = "make") = false by decide +kernel, show decide (("try" : Str) = "call") = false by decide +kernel, Bool.or_false, Bool.and_false]
section
variable {ok : Addr → Prop} {kk : Bool → Bool → Prop} {H : Hp}
theorem zip_at : ∀ {names : List Str} {fs : List V} {d : Nat}, names.length = fs.length → Paired (fun x (f : Str × Fl) => FlAt ok kk H d x f.2) fs (names.zip (fs.map Fl.at))
  | [], [], _, _ => .nil
  | [], _ :: _, _, h => by cases h
  | _ :: _, [], _, h => by cases h
  | n :: names, v :: fs, d, h => .cons rfl (zip_at (Nat.succ.inj h))
theorem zip_at' : ∀ {names : List Str} {fs rest : List V} {d : Nat}, names.length = fs.length → Paired (fun x (f : Str × Fl) => FlAt ok kk H d x f.2) rest (names.zip (fs.map Fl.at)) → rest = fs
  | [], [], rest, _, _, h => by cases h; rfl
  | [], _ :: _, _, _, h, _ => by cases h
  | _ :: _, [], _, _, h, _ => by cases h
  | n :: names, v :: fs, [], d, h, q => by cases q
  | n :: names, v :: fs, x :: rest, d, h, q => by
    cases q with
    | cons r t =>
      have e : x = v := r
      rw [e, zip_at' (Nat.succ.inj h) t]
/-- a row's things, by its fields -/
theorem rowV_of {wi : Bool} {r : Row} {v : V} : ∀ {d : Nat}, RowOk d wi r → RowAt ok kk H d v r → ∃ rest, At ok (kk false) H v (.str (rowWord r) :: rest) ∧ Paired (fun x (f : Str × Fl) => FlAt ok kk H d x f.2) rest (flds r) := by
  intro d hk h
  have plain : ∀ {w : Str} {fs : List V}, plainOk wi w fs → At ok (kk false) H v (.str w :: fs) → ∃ rest, At ok (kk false) H v (.str w :: rest) ∧ Paired (fun x (f : Str × Fl) => FlAt ok kk H d x f.2) rest (flds (.plain w fs)) := by
    intro w fs hk h
    obtain ⟨names, e, hl, _, _⟩ := flds_plain hk 0 false
    refine ⟨fs, h, ?_⟩
    show Paired _ fs (((fieldsOf w).getD []).zip (fs.map Fl.at))
    rw [e]
    exact zip_at hl
  cases d with
  | zero =>
    cases r with
    | plain w fs => exact plain hk h
    | _ => exact h.elim
  | succ d =>
    cases r with
    | plain w fs => exact plain hk h
    | make n b =>
      obtain ⟨vb, xs, h1, h2, h3⟩ := h
      exact ⟨_, h1, .cons rfl (.cons ⟨d, rfl, xs, h2, h3⟩ .nil)⟩
    | when n b c =>
      obtain ⟨vb, xs, vc, ys, h1, h2, h3, h4, h5⟩ := h
      exact ⟨_, h1, .cons rfl (.cons ⟨d, rfl, xs, h2, h3⟩ (.cons ⟨d, rfl, ys, h4, h5⟩ .nil))⟩
    | try_ b c =>
      obtain ⟨vb, xs, vc, ys, h1, h2, h3, h4, h5⟩ := h
      exact ⟨_, h1, .cons ⟨d, rfl, xs, h2, h3⟩ (.cons ⟨d, rfl, ys, h4, h5⟩ .nil)⟩
theorem rowAt_of {wi : Bool} {r : Row} {v : V} {rest : List V} : ∀ {d : Nat}, RowOk d wi r → At ok (kk false) H v (.str (rowWord r) :: rest) → Paired (fun x (f : Str × Fl) => FlAt ok kk H d x f.2) rest (flds r) → RowAt ok kk H d v r := by
  intro d hk h q
  have plain : ∀ {w : Str} {fs : List V}, plainOk wi w fs → Paired (fun x (f : Str × Fl) => FlAt ok kk H d x f.2) rest (flds (.plain w fs)) → rest = fs := by
    intro w fs hk h
    obtain ⟨names, e, hl, _, _⟩ := flds_plain hk 0 false
    have h' : Paired (fun x (f : Str × Fl) => FlAt ok kk H d x f.2) rest (((fieldsOf w).getD []).zip (fs.map Fl.at)) := h
    rw [e] at h'
    exact zip_at' hl h'
  cases d with
  | zero =>
    cases r with
    | plain w fs => rw [plain hk q] at h; exact h
    | _ => exact hk.elim
  | succ d =>
    cases r with
    | plain w fs => rw [plain hk q] at h; exact h
    | make n b =>
      cases q with
      | cons r1 t =>
        cases t with
        | cons r2 t =>
          cases t
          obtain ⟨e, he, xs, h2, h3⟩ := r2
          have e1 := Nat.succ.inj he
          subst e1
          have e2 := r1
          cases e2
          exact ⟨_, xs, h, h2, h3⟩
    | when n b c =>
      cases q with
      | cons r1 t =>
        cases t with
        | cons r2 t =>
          cases t with
          | cons r3 t =>
            cases t
            obtain ⟨e, he, xs, h2, h3⟩ := r2
            have e1 := Nat.succ.inj he
            subst e1
            obtain ⟨e, he, ys, h4, h5⟩ := r3
            have e1 := Nat.succ.inj he
            subst e1
            have e2 := r1
            cases e2
            exact ⟨_, xs, _, ys, h, h2, h3, h4, h5⟩
    | try_ b c =>
      cases q with
      | cons r2 t =>
        cases t with
        | cons r3 t =>
          cases t
          obtain ⟨e, he, xs, h2, h3⟩ := r2
          have e1 := Nat.succ.inj he
          subst e1
          obtain ⟨e, he, ys, h4, h5⟩ := r3
          have e1 := Nat.succ.inj he
          subst e1
          exact ⟨_, xs, _, ys, h, h2, h3, h4, h5⟩
end
end Ft
set_option Elab.async false
set_option linter.all false
set_option maxRecDepth 100000
set_option maxHeartbeats 4000000
namespace Ft
open PySem L2
def aD : V → PyData
  | .bl b => .bool b
  | .int i => .int i
  | .str z => .str z
  | _ => .none
mutual
def dtD : DT → PyData
  | .at v => aD v
  | .sq true ts => .list (dtDs ts)
  | .sq false ts => .tuple (dtDs ts)
def dtDs : List DT → List PyData
  | [] => []
  | t :: ts => dtD t :: dtDs ts
end
mutual
/-- all texts within are texts of Python -/
def dtOk : DT → Bool
  | .at (.str z) => PyData.strOk z
  | .at _ => true
  | .sq _ ts => dtOks ts
def dtOks : List DT → Bool
  | [] => true
  | t :: ts => dtOk t && dtOks ts
end
theorem dp_dt {K : PySem.W.Frag} {H : Hp} : ∀ (m : Nat) (v : V) (t : DT), DtAt H m v t → Dp K H v (dtD t) := by
  have atom : ∀ {v x : V}, v = x → isAtom x = true → Dp K H v (dtD (.at x)) := by
    intro v x e h
    subst e
    rw [dtD]
    cases v with
    | non => exact .non
    | bl b => exact .bl b
    | int i => exact .int i
    | str z => exact .str z
    | _ => cases h
  intro m
  induction m with
  | zero =>
    intro v t h
    cases t with
    | «at» x => exact atom h.1 h.2
    | sq kd ts => exact h.elim
  | succ m ih =>
    intro v t h
    cases t with
    | «at» x => exact atom h.1 h.2
    | sq kd ts =>
      obtain ⟨a, xs, rfl, ha, _, hp⟩ := h
      have go : ∀ {xs : List V} {ts : List DT}, Paired (DtAt H m) xs ts → DpAll K H xs (dtDs ts) := by
        intro xs ts h
        induction h with
        | nil => rw [dtDs]; exact .nil
        | cons r _ ih2 => rw [dtDs]; exact .cons (ih _ _ r) ih2
      cases kd with
      | true => rw [dtD]; exact .lst (SqL.of ha) (go hp)
      | false => rw [dtD]; exact .tup (SqT.of ha) (go hp)
theorem lay_dt {H : Hp} : ∀ (m : Nat) (v : V) (t : DT), DtAt H m v t → dtOk t = true → (dtD t).canLay0 = true ∧ (dtD t).depth ≤ m := by
  have atom : ∀ {x : V} {m : Nat}, isAtom x = true → dtOk (.at x) = true → (dtD (.at x)).canLay0 = true ∧ (dtD (.at x)).depth ≤ m := by
    intro x m h hk
    rw [dtD]
    cases x with
    | str z =>
      rw [dtOk] at hk
      exact ⟨by show PyData.canLay0 (.str z) = true; rw [PyData.canLay0]; exact hk, by show PyData.depth (.str z) ≤ m; rw [PyData.depth]; exact Nat.zero_le _⟩
    | non => exact ⟨by show PyData.canLay0 .none = true; rw [PyData.canLay0], by show PyData.depth .none ≤ m; rw [PyData.depth]; exact Nat.zero_le _⟩
    | bl b => exact ⟨by show PyData.canLay0 (.bool b) = true; rw [PyData.canLay0], by show PyData.depth (.bool b) ≤ m; rw [PyData.depth]; exact Nat.zero_le _⟩
    | int i => exact ⟨by show PyData.canLay0 (.int i) = true; rw [PyData.canLay0], by show PyData.depth (.int i) ≤ m; rw [PyData.depth]; exact Nat.zero_le _⟩
    | _ => cases h
  intro m
  induction m with
  | zero =>
    intro v t h hk
    cases t with
    | «at» x => exact atom h.2 hk
    | sq kd ts => exact h.elim
  | succ m ih =>
    intro v t h hk
    cases t with
    | «at» x => exact atom h.2 hk
    | sq kd ts =>
      obtain ⟨a, xs, rfl, ha, _, hp⟩ := h
      rw [dtOk] at hk
      have go : ∀ {xs : List V} {ts : List DT}, Paired (DtAt H m) xs ts → dtOks ts = true → PyData.canLayAll0 (dtDs ts) = true ∧ PyData.depthAll (dtDs ts) ≤ m := by
        intro xs ts h
        induction h with
        | nil => intro _; rw [dtDs]; exact ⟨by rw [PyData.canLayAll0], by rw [PyData.depthAll]; exact Nat.zero_le _⟩
        | cons r _ ih2 =>
          intro hk
          rw [dtOks, Bool.and_eq_true] at hk
          obtain ⟨i1, i2⟩ := ih _ _ r hk.1
          obtain ⟨i3, i4⟩ := ih2 hk.2
          rw [dtDs]
          exact ⟨by rw [PyData.canLayAll0, i1, i3]; rfl, by rw [PyData.depthAll]; exact Nat.max_le.mpr ⟨i2, i4⟩⟩
      obtain ⟨g1, g2⟩ := go hp hk
      cases kd with
      | true => rw [dtD]; exact ⟨by rw [PyData.canLay0]; exact g1, by rw [PyData.depth]; omega⟩
      | false => rw [dtD]; exact ⟨by rw [PyData.canLay0]; exact g1, by rw [PyData.depth]; omega⟩
theorem shaped_dt {H : Hp} {m : Nat} {v : V} {t : DT} (h : DtAt H m v t) (hk : dtOk t = true) (hm : m ≤ 64) : SeqAt.shaped (dtD t) = true := by
  obtain ⟨h1, h2⟩ := lay_dt m v t h hk
  unfold SeqAt.shaped
  rw [h1, Bool.true_and]
  exact decide_eq_true (Nat.le_trans h2 hm)
def rowDT (kr kb : Bool) : Nat → Row → DT
  | _, .plain w fs => .sq kr (.at (.str w) :: fs.map .at)
  | d + 1, .make n b => .sq kr [.at (.str "make"), .at (.str n), .sq kb (b.map (rowDT kr kb d))]
  | d + 1, .when n b c => .sq kr [.at (.str "when"), .at (.str n), .sq kb (b.map (rowDT kr kb d)), .sq kb (c.map (rowDT kr kb d))]
  | d + 1, .try_ b c => .sq kr [.at (.str "try"), .sq kb (b.map (rowDT kr kb d)), .sq kb (c.map (rowDT kr kb d))]
  | 0, _ => .at .non
theorem dtAt_at {H : Hp} {m : Nat} {x : V} (h : isAtom x = true) : DtAt H m x (.at x) := by cases m <;> exact ⟨rfl, h⟩
theorem paired_selfD {R : V → DT → Prop} : ∀ {fs : List V}, (∀ v ∈ fs, R v (.at v)) → Paired R fs (fs.map DT.at)
  | [], _ => .nil
  | v :: fs, h => .cons (h v (by simp)) (paired_selfD fun u hu => h u (by simp [hu]))
section
variable {ok : Addr → Prop} {kk : Bool → Bool → Prop} {H : Hp} {kr kb : Bool}
theorem row_dt (hq : ∀ s b, kk s b → b = if s then kb else kr) : ∀ (d : Nat) (wi : Bool) (v : V) (r : Row), RowOk d wi r → RowAt ok kk H d v r → DtAt H (2 * d + 1) v (rowDT kr kb d r) := by
  have sqr : ∀ {m : Nat} {v : V} {xs : List V} {ts : List DT}, At ok (kk false) H v xs → ts.length ≤ 16000000 → Paired (DtAt H m) xs ts → DtAt H (m + 1) v (.sq kr ts) := by
    intro m v xs ts h hl hp
    obtain ⟨a, kd, rfl, _, hk, ha⟩ := h
    have e : kd = kr := hq _ _ hk
    subst e
    exact ⟨a, xs, rfl, ha, hl, hp⟩
  have plain : ∀ {m : Nat} {v : V} {w : Str} {fs : List V} {wi : Bool}, plainOk wi w fs → At ok (kk false) H v (.str w :: fs) → DtAt H (m + 1) v (.sq kr (.at (.str w) :: fs.map .at)) := by
    intro m v w fs wi hp h
    obtain ⟨ha, hl⟩ := plain_atoms hp
    exact sqr h (by simp; omega) (.cons (dtAt_at rfl) (paired_selfD fun u hu => dtAt_at (ha u hu)))
  intro d
  induction d with
  | zero =>
    intro wi v r hk h
    cases r with
    | plain w fs => exact plain hk h
    | _ => exact h.elim
  | succ d ih =>
    intro wi v r hk h
    have e2 : 2 * (d + 1) + 1 = 2 * d + 1 + 1 + 1 := by omega
    rw [e2]
    have blk : ∀ {v : V} {xs : List V} {b : List Row} {wi : Bool}, b.length ≤ 24 → (∀ r ∈ b, RowOk d wi r) → At ok (kk true) H v xs → Paired (RowAt ok kk H d) xs b → DtAt H (2 * d + 1 + 1) v (.sq kb (b.map (rowDT kr kb d))) := by
      intro v xs b wi hl hb ha hp
      obtain ⟨a, kd, rfl, _, hk, ha⟩ := ha
      have e : kd = kb := hq _ _ hk
      subst e
      exact ⟨a, xs, rfl, ha, by rw [List.length_map]; omega, paired_mapR (paired_impM hp fun x r hr q => ih wi x r (hb r hr) q)⟩
    cases r with
    | plain w fs => exact plain hk h
    | make n b =>
      obtain ⟨vb, xs, h1, h2, h3⟩ := h
      exact sqr h1 (by show 3 ≤ 16000000; decide) (.cons (dtAt_at rfl) (.cons (dtAt_at rfl) (.cons (blk hk.2.2.1 hk.2.2.2 h2 h3) .nil)))
    | when n b c =>
      obtain ⟨vb, xs, vc, ys, h1, h2, h3, h4, h5⟩ := h
      exact sqr h1 (by show 4 ≤ 16000000; decide) (.cons (dtAt_at rfl) (.cons (dtAt_at rfl) (.cons (blk hk.2.1 hk.2.2.2.1 h2 h3) (.cons (blk hk.2.2.1 hk.2.2.2.2 h4 h5) .nil))))
    | try_ b c =>
      obtain ⟨vb, xs, vc, ys, h1, h2, h3, h4, h5⟩ := h
      exact sqr h1 (by show 3 ≤ 16000000; decide) (.cons (dtAt_at rfl) (.cons (blk hk.1 hk.2.2.1 h2 h3) (.cons (blk hk.2.1 hk.2.2.2 h4 h5) .nil)))
end
theorem fld_dtOk {k : Bool} {v : V} (h : fldOk k v = true) : dtOk (.at v) = true := by
  cases k with
  | true =>
    cases v with
    | str z => rw [dtOk]; exact isW_strOk h
    | _ => cases h
  | false =>
    cases v with
    | int i => simp [dtOk]
    | _ => cases h
theorem dtOks_map {α : Type} {f : α → DT} : ∀ {l : List α}, (∀ x ∈ l, dtOk (f x) = true) → dtOks (l.map f) = true
  | [], _ => by rw [List.map_nil, dtOks]
  | x :: l, h => by rw [List.map_cons, dtOks, h x (by simp), dtOks_map fun y hy => h y (by simp [hy])]; rfl
theorem row_dtOk {kr kb : Bool} : ∀ (d : Nat) (wi : Bool) (r : Row), RowOk d wi r → dtOk (rowDT kr kb d r) = true := by
  have plain : ∀ {w : Str} {fs : List V} {wi : Bool}, plainOk wi w fs → dtOk (.sq kr (.at (.str w) :: fs.map .at)) = true := by
    intro w fs wi hp
    obtain ⟨ks, hk, hp, _⟩ := hp
    have hw : ∀ p ∈ plainT, PyData.strOk p.1 = true := by decide +kernel
    rw [dtOk, dtOks, dtOk, hw _ hk, Bool.true_and]
    refine dtOks_map fun v hv => ?_
    obtain ⟨i, hi, e⟩ := List.mem_iff_getElem.mp hv
    obtain ⟨k, _, r⟩ := paired_getR hp (i := i) (y := v) (by rw [List.getElem?_eq_getElem hi, e])
    exact fld_dtOk r
  intro d
  induction d with
  | zero =>
    intro wi r hk
    cases r with
    | plain w fs => exact plain hk
    | _ => exact hk.elim
  | succ d ih =>
    intro wi r hk
    have blk : ∀ {b : List Row} {wi : Bool}, (∀ r ∈ b, RowOk d wi r) → dtOk (.sq kb (b.map (rowDT kr kb d))) = true := by
      intro b wi hb
      rw [dtOk]
      exact dtOks_map fun r hr => ih wi r (hb r hr)
    have s1 : dtOk (.at (.str "make")) = true := by rw [dtOk]; decide +kernel
    have s2 : dtOk (.at (.str "when")) = true := by rw [dtOk]; decide +kernel
    have s3 : dtOk (.at (.str "try")) = true := by rw [dtOk]; decide +kernel
    have nm : ∀ {n : Str}, isW n = true → dtOk (.at (.str n)) = true := fun h => by rw [dtOk]; exact isW_strOk h
    cases r with
    | plain w fs => exact plain hk
    | make n b => rw [rowDT, dtOk, dtOks, dtOks, dtOks, dtOks, s1, nm hk.2.1, blk hk.2.2.2]; rfl
    | when n b c => rw [rowDT, dtOk, dtOks, dtOks, dtOks, dtOks, dtOks, s2, nm hk.1, blk hk.2.2.2.1, blk hk.2.2.2.2]; rfl
    | try_ b c => rw [rowDT, dtOk, dtOks, dtOks, dtOks, dtOks, s3, blk hk.2.2.1, blk hk.2.2.2]; rfl
end Ft
set_option Elab.async false
set_option linter.all false
set_option maxRecDepth 100000
set_option maxHeartbeats 4000000
namespace Ft
open PySem L2
theorem cut1 (x : V) (rest : List V) : cutV (x :: rest) (some 1) none = rest := by
  unfold cutV
  rw [show HT.sIx (x :: rest).length 0 (some 1) = min 1 (x :: rest).length from HT.sIx_nat _ 0 1, HT.sIx_none]
  rw [show min 1 (x :: rest).length = 1 by rw [List.length_cons]; omega]
  show List.take (rest.length + 1 - 1) rest = rest
  rw [Nat.add_sub_cancel, List.take_length]
theorem not_whole1 (x : V) (rest : List V) : ¬ (HT.sIx (x :: rest).length 0 (some 1) = 0 ∧ HT.sIx (x :: rest).length (x :: rest).length none = (x :: rest).length) := fun ⟨e, _⟩ => by
  rw [show HT.sIx (x :: rest).length 0 (some 1) = min 1 (x :: rest).length from HT.sIx_nat _ 0 1, List.length_cons] at e
  omega
/-- x[1:] of a list or a tuple with a head -/
theorem rSl1 {kd : Bool} {K : PySem.W.Frag} {H : Hp} {a : Addr} {x : V} {rest : List V} {Q : VK} (h : H a = some (mkO kd (x :: rest))) (q : ∀ p H', Same H H' → H p = none → H' p = some (mkO kd rest) → Q (.ref p) H') :
    rSlL K (.ref a) (some 1) none H Q ∨ rSlT K (.ref a) (some 1) none H Q := by
  cases kd with
  | true => exact .inl ⟨a, _, rfl, SqL.of h, fun p np => q p _ (Same.new np) np (by rw [upd_same, cut1]; rfl)⟩
  | false => exact .inr ⟨a, _, rfl, SqT.of h, not_whole1 x rest, fun p np => q p _ (Same.new np) np (by rw [upd_same, cut1]; rfl)⟩
def blkOf (f : Str × Fl) : Option (List Row) := match f.2 with
  | .blk b => some b
  | .at _ => none
section
variable {P : Program} {w : World} {K : PySem.W.Frag} {mg : Str → Option Value} {base : Heap}
abbrev sBlocksOf : Stmt := topS 16
theorem scBlocksOf : FnScope ["row", "field", "part"] ["row"] (defScope sBlocksOf) := ⟨rfl, rfl, rfl, by decide +kernel, rfl, by decide +kernel, by decide +kernel⟩
def BlkAt (ok : Addr → Prop) (kk : Bool → Bool → Prop) (H : Hp) (d : Nat) (x : V) (b : List Row) : Prop := ∃ e, d = e + 1 ∧ RowsAt ok kk H e x b
def spBlocksOf : Sp := fun vs H Q _ => ∃ (v : V) (ok : Addr → Prop) (kk : Bool → Bool → Prop) (d : Nat) (wi : Bool) (r : Row), vs = [v] ∧ RowOk d wi r ∧ RowAt ok kk H d v r ∧
  ∀ H' p ys, Same H H' → H p = none → H' p = some (.lst ys) → Paired (BlkAt ok kk H d) ys (blocks r) → Q (.ref p) H'
theorem ok_BlocksOf {f dF : Addr} {fd : FuncData} {k : Nat} (F : Fun K "blocks_of" "blocks_of" sBlocksOf f fd) (B : Bl mg) (TF : FldT K w mg dF) : FnOk P w K mg base CX0 (k + 1) f fd ["row"] spBlocksOf := by
  obtain ⟨es, nn, D⟩ := TF.dict
  refine F.ok scBlocksOf (fun vs H Q E h => ?_) (fun cdv A outer s H vs Q E hr h => ?_)
  · obtain ⟨v, ok, kk, d, wi, r, rfl, _⟩ := h
    rfl
  obtain ⟨v, ok, kk, d, wi, r, rfl, hok, hat, q⟩ := h
  refine ⟨_, (pss_one (ps_ret (pe_lc (own := [("field", 1), ("part", 2)]) (g := (gTup _ 2 (gCons (gName 1) (gCons (gName 2) gNil)))) (by rfl) scBlocksOf.nd (pi_zipQ (by rfl) B.zip (pa_cons (pe_ix ix_kdict (pe_glob (v := .ref dF) (by rfl) TF.g rfl) (pe_ix ix_seq (pv 0) pe_int (fun _ _ => rfl)) (fun _ _ => rfl)) (pa_cons (pe_slice sl_seq (pv 0) (po_some pe_int) po_none) pa_nil))) (blkOk_by (own := [("field", 1), ("part", 2)]) (N := ["row", "field", "part"]) (sc := defScope sBlocksOf) (by decide +kernel)) (fun _ _ _ _ _ => (pg_tup (by rfl) (pgs_cons (pg_name (i := 1) scBlocksOf.nd rfl (by first | exact Or.inl rfl | exact Or.inr rfl)) (pgs_cons (pg_name (i := 2) scBlocksOf.nd rfl (by first | exact Or.inl rfl | exact Or.inr rfl)) pgs_nil)))) (fun _ _ _ _ _ => (pts_one (pt_cmpR op_eq (pv 1) pe_str (nomark _)))) (fun _ _ _ _ _ => (pv 2))))), ?_⟩
  have rf := rowF_of hok
  obtain ⟨rest, ⟨a, kd, rfl, oka, kka, ha⟩, hrest⟩ := rowV_of hok hat
  have hfs := fieldsOf_some rf.names
  obtain ⟨tA, hn, htA⟩ := TF.val _ hfs
  have ix : ∀ {Q' : VK}, Q' (.str (rowWord r)) H → rIx K (.ref a) (.int 0) H Q' := fun h => rIx_seq (sq_of ha) (atI_nat (j := 0) rfl) h
  refine ⟨_, rfl, ix ⟨dF, rowWord r, .ref tA, rfl, rfl, ⟨es, nn, .ref tA, D.at_, D.lit, hn, rfl⟩, ?_⟩⟩
  refine ⟨_, rfl, 1, rfl, rSl1 ha fun p G sm np hp => ?_⟩
  have lr : rest.length = (flds r).length := paired_len hrest
  have few := rf.few
  refine ⟨tA, p, false, kd, _, rest, rfl, htA G, sq_of hp, fun L nL => ?_⟩
  refine lc_it (walk_zipQ (n := (flds r).length) (by rw [List.length_map, List.length_map]; omega)) (fun i H' => Same G H' ∧ ∃ ys, H' L = some (.lst ys) ∧ Paired (BlkAt ok kk H d) ys (((flds r).take i).filterMap blkOf) ∧ ys.length ≤ i)
    ⟨Same.new nL, [], upd_same, .nil, Nat.le_refl _⟩ (fun i H' _ ⟨s4, _⟩ => ⟨htA H', sq_of (s4 _ _ hp)⟩) ?_ ?_
  · rintro i x H1 H2 hi ⟨s4, ys, hL, hys, hle⟩ ⟨T, x1, x2, rfl, nT, rfl, e1, e2⟩
    obtain ⟨ff, hff, hx2⟩ := paired_get hrest e2
    obtain rfl : x1 = .str ff.1 := by
      have e1' : (((flds r).map (·.1)).map V.str)[i]? = some x1 := e1
      rw [List.getElem?_map, List.getElem?_map, hff] at e1'
      exact (Option.some.inj e1').symm
    have fok := rf.ok ff (List.mem_of_getElem? hff)
    have s5 : Same G (upd H1 T (.tup [.str ff.1, x2])) := Same.trans s4 (Same.new nT)
    have nLT : L ≠ T := ne_of_none hL nT
    have hL2 : (upd H1 T (.tup [.str ff.1, x2])) L = some (.lst ys) := by rw [upd_ne nLT]; exact hL
    have et : (flds r).take (i + 1) = (flds r).take i ++ [ff] := by rw [List.take_add_one, hff]; rfl
    refine ⟨T, _, rfl, SqT.of upd_same, rfl, _, _, rfl, _, _, rfl, rfl, rfl, ?_⟩
    refine ⟨_, rfl, rfl, _, rfl, ite2 (fun c => ?_) (fun c => ?_)⟩
    · have ec : ff.1 = "block" := V.str.inj (of_decide_eq_true c)
      cases hfl : ff.2 with
      | «at» v =>
        rw [hfl] at fok
        rcases fok with ⟨h, _⟩ | ⟨h, _⟩
        · rw [ec] at h; exact absurd h (by decide)
        · rw [ec] at h; exact absurd h (by decide)
      | blk b =>
        rw [hfl] at hx2
        refine ⟨_, rfl, ys, hL2, small (by omega), Same.upN s5 nL, ys ++ [x2], upd_same, ?_, by simp; omega⟩
        rw [et, List.filterMap_append]
        have eb : List.filterMap blkOf [ff] = [b] := by
          rw [List.filterMap_cons, List.filterMap_nil]
          unfold blkOf
          rw [hfl]
        rw [eb]
        exact paired_app (show BlkAt ok kk H d x2 b from hx2) hys
    · have ec : ff.1 ≠ "block" := fun h => c (by rw [h]; exact decide_eq_true rfl)
      cases hfl : ff.2 with
      | blk b =>
        rw [hfl] at fok
        exact absurd fok.1 ec
      | «at» v =>
        refine ⟨s5, ys, hL2, ?_, by omega⟩
        rw [et, List.filterMap_append]
        have eb : List.filterMap blkOf [ff] = [] := by
          rw [List.filterMap_cons, List.filterMap_nil]
          unfold blkOf
          rw [hfl]
        rw [eb, List.append_nil]
        exact hys
  · rintro H1 ⟨s4, ys, hL, hys, hle⟩
    rw [List.take_length] at hys
    have eb : blocks r = (flds r).filterMap blkOf := rf.blk
    rw [← eb] at hys
    exact q _ L ys (Same.trans sm s4) (Same.free sm nL) hL hys
end
end Ft
set_option Elab.async false
set_option linter.all false
set_option maxRecDepth 100000
set_option maxHeartbeats 4000000
namespace Ft
open PySem L2
def isRef : V → Bool
  | .ref _ => true
  | _ => false
theorem isW_len {z : Str} (h : isW z = true) : z.length ≤ 8 := by
  unfold isW at h
  rw [Bool.and_eq_true, Bool.and_eq_true] at h
  exact of_decide_eq_true h.2.1
theorem atom_known {K : PySem.W.Frag} {H : Hp} {x : V} (h : isAtom x = true) (hz : ∀ z, x = .str z → z.length ≤ sizeLine) : KnownS K H isRef x := by
  refine ⟨?_, atomT x, atom_ty h, ?_⟩
  · cases x with
    | non => exact .inr (.inl rfl)
    | bl b => exact .inr (.inr (.inl ⟨b, rfl⟩))
    | int i => exact .inr (.inr (.inr (.inl ⟨i, rfl⟩)))
    | str z => exact .inl ⟨z, rfl, hz z rfl⟩
    | _ => cases h
  · rw [atom_lt h]
    cases x <;> first | rfl | cases h
theorem seq_known {K : PySem.W.Frag} {H : Hp} {ok : Addr → Prop} {kk : Bool → Prop} {v : V} {xs : List V} (h : At ok kk H v xs) : KnownS K H isRef v := by
  obtain ⟨a, kd, rfl, _, _, h⟩ := h
  refine ⟨.inr (.inr (.inr (.inr ⟨a, seqT kd, rfl, seq_ty h, by cases kd <;> decide⟩))), seqT kd, seq_ty h, seq_lt kd⟩
/-- a right row is taken -/
theorem row_taken {K : PySem.W.Frag} {H : Hp} {ok : Addr → Prop} {kk : Bool → Bool → Prop} {d : Nat} {wi : Bool} {r : Row} {rest : List V} (hok : RowOk d wi r) (hrest : Paired (fun x (f : Str × Fl) => FlAt ok kk H d x f.2) rest (flds r)) :
    (∀ x ∈ (.str (rowWord r) :: rest : List V), KnownS K H isRef x) ∧ rowB isRef wi (.str (rowWord r) :: rest) = true := by
  have rf := rowF_of hok
  have each : ∀ (i : Nat) (x : V), rest[i]? = some x → ∃ f : Str × Fl, (flds r)[i]? = some f ∧ KnownS K H isRef x ∧ fieldB isRef f.1 x = true := by
    intro i x hx
    obtain ⟨f, hf, hat⟩ := paired_get hrest hx
    have fok := rf.ok f (List.mem_of_getElem? hf)
    refine ⟨f, hf, ?_⟩
    obtain ⟨name, fl⟩ := f
    cases fl with
    | «at» v =>
      have e : x = v := hat
      subst e
      rcases fok with ⟨h1, h2⟩ | ⟨h1, i, h2, _⟩
      · have h1' : name = "word" := h1
        subst h1'
        cases x with
        | str z => exact ⟨atom_known rfl fun y e => by rw [← V.str.inj e]; exact smallE (by have := isW_len h2; omega), h2⟩
        | _ => cases h2
      · have h1' : name = "number" := h1
        subst h1'
        subst h2
        exact ⟨atom_known rfl fun y e => (nomatch e), by
          show (if ("number" : Str) = "word" then wordV (.int i) else if ("number" : Str) = "number" then intV (.int i) else isRef (.int i)) = true
          rw [if_neg (by decide), if_pos rfl]; rfl⟩
    | blk b =>
      have h1 : name = "block" := fok.1
      subst h1
      obtain ⟨e, _, ys, h2, _⟩ := hat
      refine ⟨seq_known h2, ?_⟩
      obtain ⟨a, kd, rfl, _⟩ := h2
      rfl
  refine ⟨fun x hx => ?_, ?_⟩
  · rcases List.mem_cons.mp hx with e | hx
    · rw [e]
      refine atom_known rfl fun y e => ?_
      rw [← V.str.inj e]
      have hfs := fieldsOf_some rf.names
      have : ∀ p ∈ fieldsT, p.1.length ≤ 8 := by decide +kernel
      exact smallE (by have := this _ hfs; have e2 : (rowWord r, (flds r).map (·.1)).1 = rowWord r := rfl; rw [e2] at this; omega)
    · obtain ⟨i, hi, e⟩ := List.mem_iff_getElem.mp hx
      obtain ⟨f, _, h, _⟩ := each i x (by rw [List.getElem?_eq_getElem hi, e])
      exact h
  · rw [rowB_str, rf.names]
    show (!(wi && (decide (rowWord r = "make") || decide (rowWord r = "call"))) && (decide (rest.length = ((flds r).map (·.1)).length) && _)) = true
    rw [rf.word, List.length_map, decide_eq_true (paired_len hrest)]
    rw [Bool.not_false, Bool.true_and, Bool.true_and, List.all_eq_true]
    intro p hp
    obtain ⟨i, hi, e⟩ := List.mem_iff_getElem.mp hp
    have ep : (((flds r).map (·.1)).zip rest)[i]? = some p := by rw [List.getElem?_eq_getElem hi, e]
    obtain ⟨e1, e2⟩ := List.getElem?_zip_eq_some.mp ep
    obtain ⟨f, hf, _, h⟩ := each i p.2 e2
    rw [List.getElem?_map, hf] at e1
    have e3 : f.1 = p.1 := Option.some.inj e1
    rw [← e3]
    exact h
section
variable {P : Program} {w : World} {K : PySem.W.Frag} {mg : Str → Option Value} {base : Heap}
abbrev sFirstWrong : Stmt := topS 17
theorem scFirstWrong : FnScope ["rows", "path", "is_within", "k", "row", "here", "b", "block", "found"] ["rows", "path", "is_within"] (defScope sFirstWrong) := ⟨rfl, rfl, rfl, by decide +kernel, rfl, by decide +kernel, by decide +kernel⟩
def PathAt (H : Hp) (v : V) (p : List Int) : Prop := ∃ a, v = .ref a ∧ H a = some (.tup (p.map V.int))
def spFirstWrong (d : Nat) : Sp := fun vs H Q _ => ∃ (v pv : V) (ok : Addr → Prop) (kk : Bool → Bool → Prop) (wi : Bool) (rs : List Row) (p : List Int), vs = [v, pv, .bl wi] ∧ RowsAt ok kk H d v rs ∧ rs.length ≤ 24 ∧ (∀ r ∈ rs, RowOk d wi r) ∧ PathAt H pv p ∧ p.length + 2 * d ≤ 100 ∧
  ∀ H', Same H H' → Q .non H'
theorem ok_FirstWrong {f : Addr} {fd : FuncData} {k d : Nat} {spF : Sp} (F : Fun K "first_wrong" "first_wrong" sFirstWrong f fd) (B : Bl mg) (hk : 4 ≤ k) (gIsRow : Own P w K mg base 4 "is_row" ["thing", "is_within"] (spIsRow K)) (gBlocksOf : Own P w K mg base 1 "blocks_of" ["row"] spBlocksOf)
    (gFirstWrong : Own P w K mg base k "first_wrong" ["rows", "path", "is_within"] spF) (hF : ∀ e, d = e + 1 → spF = spFirstWrong e) : FnOk P w K mg base CX0 (k + 1) f fd ["rows", "path", "is_within"] (spFirstWrong d) := by
  refine F.ok scFirstWrong (fun vs H Q E h => ?_) (fun cdv A outer s H vs Q E hr h => ?_)
  · obtain ⟨v, pv, ok, kk, wi, rs, p, rfl, _⟩ := h
    rfl
  obtain ⟨v, pv, ok, kk, wi, rs, p, rfl, ⟨xs, ⟨a, kd, rfl, oka, kka, ha⟩, hxs⟩, hlen, hok, ⟨pa, rfl, hpa⟩, hpl, q⟩ := h
  refine ⟨_, (pss_cons (ps_for PassesOwn.never rfl (pi_enumQ (by rfl) B.enumerate (pa_cons (pv 0) pa_nil)) (pg_tup (by rfl) (pgs_cons (pg_name (i := 3) scFirstWrong.nd rfl (by first | exact Or.inl rfl | exact Or.inr rfl)) (pgs_cons (pg_name (i := 4) scFirstWrong.nd rfl (by first | exact Or.inl rfl | exact Or.inr rfl)) pgs_nil))) (pss_cons (ps_set (i := 5) scFirstWrong.nd rfl (by first | exact Or.inl rfl | exact Or.inr rfl) (pe_mid (pe_op op_catA (pv 1) (pe_tup (pa_cons (pv 3) pa_nil)))))
      (pss_cons (ps_if (pt_not (pt_val (pe_own gIsRow (hr.mono (by omega)) (by rfl) (pa_cons (pv 4) (pa_cons (pv 2) pa_nil))))) (pss_one (ps_ret (pv 5))) pss_nil)
      (pss_one (ps_for PassesOwn.never rfl (pi_enumQ (by rfl) B.enumerate (pa_cons (pe_own gBlocksOf (hr.mono (by omega)) (by rfl) (pa_cons (pv 4) pa_nil)) pa_nil)) (pg_tup (by rfl) (pgs_cons (pg_name (i := 6) scFirstWrong.nd rfl (by first | exact Or.inl rfl | exact Or.inr rfl)) (pgs_cons (pg_name (i := 7) scFirstWrong.nd rfl (by first | exact Or.inl rfl | exact Or.inr rfl)) pgs_nil))) (pss_cons (ps_set (i := 8) scFirstWrong.nd rfl (by first | exact Or.inl rfl | exact Or.inr rfl) (pe_own gFirstWrong (hr.mono (by omega)) (by rfl) (pa_cons (pv 7) (pa_cons (pe_mid (pe_op op_catA (pv 5) (pe_tup (pa_cons (pv 6) pa_nil)))) (pa_cons (pe_mid (pe_or (pv 2) (pe_one (pe_cmpR op_eq (pe_ix ix_seq (pv 4) pe_int (fun _ _ => rfl)) pe_str (nomark _))))) pa_nil)))))
      (pss_one (ps_if (pt_cmpR op_notN (pv 8) pe_non (nomark _)) (pss_one (ps_ret (pv 8))) pss_nil))))))))
      (pss_one (ps_ret pe_non))), ?_⟩
  refine ⟨_, rfl, a, kd, xs, rfl, sq_of ha, ?_⟩
  refine for_it walk_enumQ (fun i σ H' => Same H H' ∧ ∃ v3 v4 v5 v6 v7 v8, σ = [some (.ref a), some (.ref pa), some (.bl wi), v3, v4, v5, v6, v7, v8])
    ⟨Same.refl H, none, none, none, none, none, none, rfl⟩ (fun i σ H' _ ⟨sm, _⟩ => sq_of (sm _ _ ha)) ?_ ?_
  · rintro i x σ H1 H2 hi ⟨sm, v3, v4, v5, v6, v7, v8, rfl⟩ ⟨T, x1, x2, rfl, nT, rfl, e1, e2⟩
    have e1' : x1 = .int (i : Nat) := (Option.some.inj e1).symm
    subst e1'
    obtain ⟨r, hr', hrow⟩ := paired_get hxs e2
    have rok := hok r (List.mem_of_getElem? hr')
    have s2 : Same H (upd H1 T (.tup [.int (i : Nat), x2])) := Same.trans sm (Same.new nT)
    refine ⟨T, _, rfl, SqT.of upd_same, rfl, _, _, rfl, _, _, rfl, rfl, ?_⟩
    generalize hG : upd H1 T _ = G at *
    -- here = path + (k,)
    refine ⟨fun v H' => ∃ b, v = .ref b ∧ H' b = some (.tup ((p ++ [(i : Int)]).map V.int)) ∧ Same G H', ?_, ?_⟩
    · refine ⟨_, rfl, _, rfl, (by show 1 ≤ sizeLine; decide), fun t1 nt1 => ?_⟩
      refine ⟨pa, t1, p.map V.int, [.int (i : Nat)], rfl, rfl, SqT.of (Same.new nt1 _ _ (s2 _ _ hpa)), SqT.of upd_same, smallE (by rw [List.length_map]; simp; omega), fun e => ?_, fun _ e => (nomatch e), fun _ _ t2 nt2 => ?_⟩
      · have ep : p = [] := List.map_eq_nil_iff.mp e
        subst ep
        exact ⟨t1, rfl, upd_same, Same.new nt1⟩
      · exact ⟨t2, rfl, by rw [upd_same, List.map_append]; rfl, Same.trans (Same.new nt1) (Same.new nt2)⟩
    rintro hv G1 ⟨hb, rfl, hhb, s3⟩
    have s4 : Same H G1 := Same.trans s2 s3
    have hrow1 : RowAt ok kk G1 d x2 r := hrow.to (Keep.fr (Fr.same s4) fun _ k => k)
    obtain ⟨rest, ⟨ra, rkd, rfl, roka, rkka, hra⟩, hrest⟩ := rowV_of rok hrow1
    have rf := rowF_of rok
    have few := rf.few
    have lr : rest.length = (flds r).length := paired_len hrest
    obtain ⟨hkn, hrb⟩ := row_taken (K := K) rok hrest
    refine ⟨_, rfl, _, rfl, .ref ra, wi, rfl, .inr ⟨ra, rkd, _, isRef, rfl, hra, by simp; omega, hkn, fun G2 s5 => ?_⟩⟩
    rw [hrb]
    refine ⟨true, rfl, iteF ?_⟩
    have s6 : Same H G2 := Same.trans s4 s5
    have hrow2 : RowAt ok kk G2 d (.ref ra) r := hrow1.to (Keep.fr (Fr.same s5) fun _ k => k)
    refine ⟨_, rfl, .ref ra, ok, kk, d, wi, r, rfl, rok, hrow2, fun G3 bl ys s7 nb hbl hys => ?_⟩
    have lb : ys.length ≤ 3 := by
      rw [paired_len hys, rf.blk]
      exact Nat.le_trans (List.length_filterMap_le _ _) few
    refine ⟨bl, true, ys, rfl, sq_of hbl, ?_⟩
    refine for_it walk_enumQ (fun j σ H' => Same G3 H' ∧ ∃ v6 v7 v8, σ = [some (.ref a), some (.ref pa), some (.bl wi), some (.int (i : Nat)), some (.ref ra), some (.ref hb), v6, v7, v8])
      ⟨Same.refl _, v6, v7, v8, rfl⟩ (fun j σ H' _ ⟨sm, _⟩ => sq_of (kd := true) (sm _ _ hbl)) ?_ ?_
    · rintro j y σ H3 H4 hj ⟨sm4, w6, w7, w8, rfl⟩ ⟨T2, y1, y2, rfl, nT2, rfl, f1, f2⟩
      have f1' : y1 = .int (j : Nat) := (Option.some.inj f1).symm
      subst f1'
      obtain ⟨b, hb', hblk⟩ := paired_get hys f2
      obtain ⟨e, rfl, hrows⟩ := hblk
      have eF := hF e rfl
      subst eF
      have s8 : Same G3 (upd H3 T2 (.tup [.int (j : Nat), y2])) := Same.trans sm4 (Same.new nT2)
      refine ⟨T2, _, rfl, SqT.of upd_same, rfl, _, _, rfl, _, _, rfl, rfl, ?_⟩
      generalize hG4 : upd H3 T2 _ = G4 at *
      have s9 : Same G1 G4 := Same.trans s5 (Same.trans s7 s8)
      have hhb4 : G4 hb = some (.tup ((p ++ [(i : Int)]).map V.int)) := s9 _ _ hhb
      have bok : b.length ≤ 24 ∧ ∀ r' ∈ b, RowOk e (wi || decide (rowWord r = "make")) r' := by
        have hm : b ∈ blocks r := List.mem_of_getElem? hb'
        rw [rf.blk] at hm
        obtain ⟨ff, hff, eff⟩ := List.mem_filterMap.mp hm
        have fok := rf.ok ff hff
        cases hfl : ff.2 with
        | «at» v => rw [hfl] at eff; cases eff
        | blk b2 =>
          rw [hfl] at eff fok
          have e2 : b2 = b := Option.some.inj eff
          subst e2
          obtain ⟨_, e', he', h8, hr8⟩ := fok
          have : e = e' := Nat.succ.inj he'
          subst this
          exact ⟨h8, hr8⟩
      refine ⟨_, rfl, fun v H' => ∃ c, v = .ref c ∧ H' c = some (.tup ((p ++ [(i : Int)] ++ [(j : Int)]).map V.int)) ∧ Same G4 H', ?_, ?_⟩
      · refine ⟨_, rfl, _, rfl, (by show 1 ≤ sizeLine; decide), fun t1 nt1 => ?_⟩
        refine ⟨hb, t1, _, [.int (j : Nat)], rfl, rfl, SqT.of (Same.new nt1 _ _ hhb4), SqT.of upd_same, smallE (by rw [List.length_map]; simp; omega), fun e => (by simp at e), fun _ e => (nomatch e), fun _ _ t2 nt2 => ?_⟩
        exact ⟨t2, rfl, by rw [upd_same, List.map_append (l₁ := p ++ [(i : Int)])]; rfl, Same.trans (Same.new nt1) (Same.new nt2)⟩
      rintro cv G5 ⟨c, rfl, hc, s10⟩
      have s11 : Same G2 G5 := Same.trans s7 (Same.trans s8 s10)
      refine ⟨fun v H' => v = .bl (wi || decide (rowWord r = "make")) ∧ G5 = H', ?_, ?_⟩
      · refine ⟨_, rfl, wi, rfl, ?_⟩
        cases wi with
        | true => exact iteT ⟨rfl, rfl⟩
        | false =>
          have hra5 := Same.trans s5 s11 _ _ hra
          refine iteF ⟨_, rfl, rIx_seq (sq_of hra5) (atI_nat (j := 0) rfl) ⟨rfl, ?_, rfl⟩⟩
          rw [Bool.false_or]
          have : (V.str (rowWord r) = V.str "make") ↔ (rowWord r = "make") := ⟨fun e => V.str.inj e, fun e => by rw [e]⟩
          rw [decide_eq_decide.mpr this]
      rintro _ _ ⟨rfl, rfl⟩
      have hrows5 : RowsAt ok kk G5 e y2 b := hrows.to (Keep.fr (Fr.same s11) fun _ k => k)
      refine ⟨y2, .ref c, ok, kk, _, b, p ++ [(i : Int)] ++ [(j : Int)], rfl, hrows5, by have := bok.1; omega, bok.2, ⟨c, rfl, hc⟩, by simp; omega, fun G6 s12 => ?_⟩
      refine ⟨_, rfl, rfl, _, rfl, iteF ⟨Same.trans s8 (Same.trans s10 s12), _, _, _, rfl⟩⟩
    · rintro σ H3 ⟨sm4, w6, w7, w8, rfl⟩
      exact ⟨Same.trans s6 (Same.trans s7 sm4), _, _, _, _, _, _, rfl⟩
  · rintro σ H1 ⟨sm, v3, v4, v5, v6, v7, v8, rfl⟩
    exact q _ sm
theorem firstWrong_ok {f : Addr} {fd : FuncData} (F : Fun K "first_wrong" "first_wrong" sFirstWrong f fd) (B : Bl mg) (m : mg "first_wrong" = some (.ref f)) (b : Binds K fd ["rows", "path", "is_within"] []) (gIsRow : Own P w K mg base 4 "is_row" ["thing", "is_within"] (spIsRow K)) (gBlocksOf : Own P w K mg base 1 "blocks_of" ["row"] spBlocksOf) :
    ∀ d : Nat, Own P w K mg base (5 + d) "first_wrong" ["rows", "path", "is_within"] (spFirstWrong d)
  | 0 => own_mk F m b (ok_FirstWrong (k := 4) F B (by omega) gIsRow gBlocksOf (own_mk F m b fn_false) (fun e h => absurd h (by omega)))
  | d + 1 => own_mk F m b (ok_FirstWrong (k := 5 + d) F B (by omega) gIsRow gBlocksOf (firstWrong_ok F B m b gIsRow gBlocksOf d) (fun e h => by
      have : d = e := by omega
      rw [this]))
end
end Ft
set_option Elab.async false
set_option linter.all false
set_option maxRecDepth 100000
set_option maxHeartbeats 4000000
namespace Ft
open PySem L2
/-- a right library -/
structure LibR (lib : Lib) : Prop where
  few : lib.length ≤ 4
  pos : 0 < lib.length
  nd : (lib.map (·.1)).Nodup
  word : ∀ m ∈ lib, isW m.1 = true
  len : ∀ m ∈ lib, m.2.length ≤ 24
  rows : ∀ m ∈ lib, ∀ r ∈ m.2, RowOk 3 false r
section
variable {P : Program} {w : World} {K : PySem.W.Frag} {mg : Str → Option Value} {base : Heap}
abbrev sCheckModules : Stmt := topS 18
theorem scCheckModules : FnScope ["modules", "word", "path"] ["modules"] (defScope sCheckModules) := ⟨rfl, rfl, rfl, by decide +kernel, rfl, by decide +kernel, by decide +kernel⟩
def spCheckModules : Sp := fun vs H Q _ => ∃ (dm : Addr) (kvs : List (Key × V)) (lib : Lib) (ok : Addr → Prop) (kk : Bool → Bool → Prop), vs = [.ref dm] ∧ H dm = some (.dK kvs) ∧ LibAt ok kk H kvs lib ∧ LibR lib ∧ ∀ H', Same H H' → Q .non H'
theorem ok_CheckModules {f : Addr} {fd : FuncData} {k : Nat} (F : Fun K "check_modules" "check_modules" sCheckModules f fd) (B : Bl mg) (hk : 8 ≤ k) (gIsWord : Own P w K mg base 1 "is_word" ["thing"] (spIsWord K)) (gFirstWrong : Own P w K mg base 8 "first_wrong" ["rows", "path", "is_within"] (spFirstWrong 3)) : FnOk P w K mg base CX0 (k + 1) f fd ["modules"] spCheckModules := by
  refine F.ok scCheckModules (fun vs H Q E h => ?_) (fun cdv A outer s H vs Q E hr h => ?_)
  · obtain ⟨dm, kvs, lib, ok, kk, rfl, _⟩ := h
    rfl
  obtain ⟨dm, kvs, lib, ok, kk, rfl, hdm, hlib, lr, q⟩ := h
  refine ⟨_, (pss_cons (ps_if (PW.pt (pw_or (pt_not (pt_val (pe_callB call_isi (by rfl) B.isinstance (by decide +kernel) (pa_cons (pv 0) (pa_cons (pe_bltn (v := .ty "dict") (by rfl) B.dict (by decide +kernel) rfl) pa_nil))))) (pw_or (pt_cmpR op_eq (pe_callB call_lenD (by rfl) B.len (by decide +kernel) (pa_cons (pv 0) pa_nil)) pe_int (nomark _)) (pw_or1 (pt_not (pt_val (pe_callB (cr_all rfl) (by rfl) B.all (by decide +kernel) (pa_cons (pe_lock (pe_lc (own := [("word", 1)]) (g := (gName 1)) (tt := tYes) (by rfl) scCheckModules.nd (pi_keys (pv 0)) (blkOk_by (own := [("word", 1)]) (N := ["modules", "word", "path"]) (sc := defScope sCheckModules) (by decide +kernel)) (fun _ _ _ _ _ => (pg_name (i := 1) scCheckModules.nd rfl (by first | exact Or.inl rfl | exact Or.inr rfl))) (fun _ _ _ _ _ => pts_nil) (fun _ _ _ _ _ => (pe_own gIsWord (hr.mono (by omega)) (by rfl) (pa_cons (pv 1) pa_nil))))) pa_nil)))))))) (pss_one ps_never) pss_nil)
      (pss_one (ps_for PassesOwn.never rfl (pi_list (pe_callB (call_sortedD rfl) (by rfl) B.sorted (by decide +kernel) (pa_cons (pv 0) pa_nil))) (pg_name (i := 1) scCheckModules.nd rfl (by first | exact Or.inl rfl | exact Or.inr rfl)) (pss_cons (ps_if (pt_not (pt_val (pe_callB call_isiT (by rfl) B.isinstance (by decide +kernel) (pa_cons (pe_dget (hu_of hr) (pv 0) (pv 1) (fun _ _ => rfl)) (pa_cons (pe_tup (pa_cons (pe_bltn (v := .ty "list") (by rfl) B.list (by decide +kernel) rfl) (pa_cons (pe_bltn (v := .ty "tuple") (by rfl) B.tuple (by decide +kernel) rfl) pa_nil))) pa_nil))))) (pss_one ps_never) pss_nil)
      (pss_cons (ps_set (i := 2) scCheckModules.nd rfl (by first | exact Or.inl rfl | exact Or.inr rfl) (pe_own gFirstWrong (hr.mono (by omega)) (by rfl) (pa_cons (pe_dget (hu_of hr) (pv 0) (pv 1) (fun _ _ => rfl)) (pa_cons (pe_tup pa_nil) (pa_cons pe_bl pa_nil)))))
      (pss_one (ps_if (pt_cmpR op_notN (pv 2) pe_non (nomark _)) (pss_one ps_never) pss_nil))))))), ?_⟩
  have hkeys := libAt_keys hlib
  have hkl := libAt_len hlib
  have few := lr.few
  have keysW : ∀ z ∈ lib.map (·.1), isW z = true := fun z hz => by
    obtain ⟨m, hm, e⟩ := List.mem_map.mp hz
    rw [← e]; exact lr.word m hm
  refine ⟨_, rfl, _, _, _, _, _, rfl, .ty _, .base (.dK hdm), kit_ty (r := true) (by decide +kernel), true, rfl, iteF ?_⟩
  refine ⟨_, rfl, dm, kvs, rfl, hdm, rfl, _, rfl, ?_⟩
  have e0 : decide (V.int ((kvs.length : Nat) : Int) = V.int 0) = false := decide_eq_false (fun e => by
    have := V.int.inj e
    have := lr.pos
    omega)
  rw [e0]
  refine iteF ?_
  -- the keys
  refine ⟨dm, .dK kvs, hdm, trivial, fun od => ?_⟩
  refine ⟨_, rfl, dm, od, rfl, .inl ⟨kvs, upd_same, fun L nL => ?_⟩⟩
  have Ld : L ≠ dm := fun e => by rw [e, upd_same] at nL; cases nL
  refine lc_it walk_keys (fun i H' => Same (upd H dm (.frz od (.dK kvs))) H' ∧ H' L = some (.lst (List.replicate i (.bl true))))
    ⟨Same.new nL, upd_same⟩ (fun i H' _ ⟨sm, _⟩ => sm _ _ upd_same) ?_ ?_
  · rintro i x H1 H2 hi ⟨sm, hL⟩ ⟨rfl, kk', v', hkv, rfl⟩
    refine ⟨rfl, ?_⟩
    obtain ⟨z, hz, rfl⟩ : ∃ z, isW z = true ∧ kk' = Sum.inr z := by
      have : (kvs.map (·.1))[i]? = some kk' := by rw [List.getElem?_map, hkv]; rfl
      rw [hkeys, List.getElem?_map] at this
      obtain ⟨z, h1, h2⟩ := Option.map_eq_some_iff.mp this
      exact ⟨z, keysW z (List.mem_of_getElem? h1), h2.symm⟩
    have hzl := isW_len hz
    refine ⟨_, rfl, .str z, rfl, .inl ⟨z, rfl, smallE (by omega)⟩, fun H3 s3 => ?_⟩
    refine ⟨_, s3 _ _ hL, by rw [List.length_replicate]; exact small (by omega), Same.upN (Same.trans sm s3) nL, ?_⟩
    show (upd H3 L (.lst (List.replicate i (.bl true) ++ [.bl (isW z)]))) L = _
    rw [upd_same, hz, List.replicate_succ']
  · rintro H1 ⟨sm, hL⟩
    have hd1 : H1 dm = some (.frz od (.dK kvs)) := sm _ _ upd_same
    have sm1 : Same H (upd H1 dm (.dK kvs)) := fun b o e => by
      by_cases eb : b = dm
      · rw [eb, hdm] at e
        rw [eb, upd_same]; exact e
      · rw [upd_ne eb]
        exact sm _ _ (by rw [upd_ne eb]; exact e)
    refine ⟨hd1, L, List.replicate kvs.length true, rfl, SqL.of (by rw [upd_ne Ld, hL, List.map_replicate]), ?_⟩
    have ea : (List.replicate kvs.length true).all id = true := by
      rw [List.all_eq_true]
      intro b hb
      rw [List.eq_of_mem_replicate hb]; rfl
    rw [ea]
    refine ⟨true, rfl, iteF ?_⟩
    generalize hG : upd H1 dm _ = G at *
    have hdG : G dm = some (.dK kvs) := by rw [← hG]; exact upd_same
    -- sorted(modules)
    refine ⟨_, rfl, dm, kvs, lib.map (·.1), rfl, .inl hdG, hkeys, by rw [List.length_map]; omega, fun ys l0 hperm hsort nl0 => ?_⟩
    have s2 : Same G (upd G l0 (.lst (ys.map V.str))) := Same.new nl0
    refine ⟨l0, rfl, ⟨_, SqL.of upd_same⟩, ?_⟩
    refine for_it (walk_list (xs := ys.map V.str)) (fun i σ H' => Same (upd G l0 (.lst (ys.map V.str))) H' ∧ ∃ v1 v2, σ = [some (.ref dm), v1, v2])
      ⟨Same.refl _, _, _, rfl⟩ (fun i σ H' _ ⟨sm, _⟩ => SqL.of (sm _ _ upd_same)) ?_ ?_
    · rintro i x σ H2 H3 hi ⟨s3, v1, v2, rfl⟩ ⟨rfl, hx⟩
      obtain ⟨z, hz, rfl⟩ : ∃ z, z ∈ ys ∧ x = .str z := by
        rw [List.getElem?_map] at hx
        obtain ⟨z, h1, h2⟩ := Option.map_eq_some_iff.mp hx
        exact ⟨z, List.mem_of_getElem? h1, h2.symm⟩
      obtain ⟨⟨z', rs⟩, hm, e⟩ := List.mem_map.mp (hperm.mem_iff.mp hz)
      have e' : z' = z := e
      subst e'
      have s4 : Same H H3 := Same.trans sm1 (Same.trans s2 s3)
      have hlib3 : LibAt ok kk H3 kvs lib := hlib.to (Keep.fr (Fr.same s4) fun _ k => k)
      obtain ⟨v, hv, hrows⟩ := libAt_val hlib3 lr.nd hm
      have hd3 : H3 dm = some (.dK kvs) := s4 _ _ hdm
      have dg : DGet H3 dm (.str z') (some v) := by rw [← hv]; exact DGet.k (k := Sum.inr z') hd3
      obtain ⟨xs, hat, hall⟩ := id hrows
      have hat' := hat
      obtain ⟨a, kd, rfl, oka, kka, ha⟩ := hat'
      refine ⟨_, rfl, _, rfl, dm, .ref a, rfl, dg, (by show 2 ≤ sizeLine; decide), fun t0 nt => ?_⟩
      refine ⟨_, t0, _, _, _, _, rfl, upd_same, clsV_all ["list", "tuple"], seq_ty (Same.new nt _ _ ha), kitAny_of (seq_lt kd), true, rfl, iteF ?_⟩
      have s5 : Same H3 (upd H3 t0 (.tup [.ty "list", .ty "tuple"])) := Same.new nt
      generalize hG3 : upd H3 t0 _ = G3 at *
      have hd4 : G3 dm = some (.dK kvs) := s5 _ _ hd3
      have dg4 : DGet G3 dm (.str z') (some (.ref a)) := by rw [← hv]; exact DGet.k (k := Sum.inr z') hd4
      refine ⟨_, rfl, _, rfl, dm, .ref a, rfl, dg4, Nat.zero_le _, fun t1 nt1 => ?_⟩
      have s6 : Same H3 (upd G3 t1 (.tup [])) := Same.trans s5 (Same.new nt1)
      refine ⟨.ref a, .ref t1, ok, kk, false, rs, [], rfl, hrows.to (Keep.fr (Fr.same s6) fun _ k => k), lr.len _ hm, lr.rows _ hm, ⟨t1, rfl, upd_same⟩, by simp, fun G4 s7 => ?_⟩
      exact ⟨_, rfl, rfl, _, rfl, iteF ⟨Same.trans s3 (Same.trans s6 s7), _, _, rfl⟩⟩
    · rintro σ H2 ⟨s3, v1, v2, rfl⟩
      exact q _ (Same.trans sm1 (Same.trans s2 s3))
end
end Ft
set_option Elab.async false
set_option linter.all false
set_option maxRecDepth 100000
set_option maxHeartbeats 4000000
namespace Ft
open PySem L2
def tupK : Bool → Bool → Prop := fun _ b => b = false
theorem FlAt.to {ok ok' : Addr → Prop} {kk : Bool → Bool → Prop} {H H' : Hp} {d : Nat} {v : V} {f : Fl} (h : FlAt ok kk H d v f) (t : Keep ok ok' H H') : FlAt ok' kk H' d v f := by
  cases f with
  | «at» x => exact h
  | blk b =>
    obtain ⟨e, he, hr⟩ := h
    exact ⟨e, he, hr.to t⟩
section
variable {P : Program} {w : World} {K : PySem.W.Frag} {mg : Str → Option Value} {base : Heap}
abbrev sFrozen : Stmt := topS 19
theorem scFrozen : FnScope ["rows", "found", "row", "parts", "field", "part"] ["rows"] (defScope sFrozen) := ⟨rfl, rfl, rfl, by decide +kernel, rfl, by decide +kernel, by decide +kernel⟩
def spFrozen (d : Nat) : Sp := fun vs H Q _ => ∃ (v : V) (ok : Addr → Prop) (kk : Bool → Bool → Prop) (wi : Bool) (rs : List Row), vs = [v] ∧ RowsAt ok kk H d v rs ∧ rs.length ≤ 24 ∧ (∀ r ∈ rs, RowOk d wi r) ∧
  ∀ H' v', Same H H' → RowsAt (fun x => H x = none) tupK H' d v' rs → Q v' H'
theorem ok_Frozen {f dF : Addr} {fd : FuncData} {k d : Nat} {spF : Sp} (F : Fun K "frozen" "frozen" sFrozen f fd) (B : Bl mg) (TF : FldT K w mg dF)
    (gFrozen : Own P w K mg base k "frozen" ["rows"] spF) (hF : ∀ e, d = e + 1 → spF = spFrozen e) : FnOk P w K mg base CX0 (k + 1) f fd ["rows"] (spFrozen d) := by
  obtain ⟨es, nn, D⟩ := TF.dict
  refine F.ok scFrozen (fun vs H Q E h => ?_) (fun cdv A outer s H vs Q E hr h => ?_)
  · obtain ⟨v, ok, kk, wi, rs, rfl, _⟩ := h
    rfl
  obtain ⟨v, ok, kk, wi, rs, rfl, ⟨xs, ⟨a, kd, rfl, oka, kka, ha⟩, hxs⟩, hlen, hok, q⟩ := h
  refine ⟨_, (pss_cons (ps_set (i := 1) scFrozen.nd rfl (by first | exact Or.inl rfl | exact Or.inr rfl) (pe_lst pa_nil))
      (pss_cons (ps_for PassesOwn.never rfl (pi_seq (pv 0)) (pg_name (i := 2) scFrozen.nd rfl (by first | exact Or.inl rfl | exact Or.inr rfl)) (pss_cons (ps_setLc (i := 3) (own := [("field", 4), ("part", 5)]) (g := (gTup _ 2 (gCons (gName 4) (gCons (gName 5) gNil)))) (tt := tYes) (by rfl) scFrozen.nd rfl rfl (sw_true rfl rfl rfl (by decide +kernel)) (pi_zipQ (by rfl) B.zip (pa_cons (pe_ix ix_kdict (pe_glob (v := .ref dF) (by rfl) TF.g rfl) (pe_ix ix_seq (pv 2) pe_int (fun _ _ => rfl)) (fun _ _ => rfl)) (pa_cons (pe_slice sl_seq (pv 2) (po_some pe_int) po_none) pa_nil))) (blkOk_by (own := [("field", 4), ("part", 5)]) (N := ["rows", "found", "row", "parts", "field", "part"]) (sc := defScope sFrozen) (by decide +kernel)) (fun _ _ _ _ _ => (pg_tup (by rfl) (pgs_cons (pg_name (i := 4) scFrozen.nd rfl (by first | exact Or.inl rfl | exact Or.inr rfl)) (pgs_cons (pg_name (i := 5) scFrozen.nd rfl (by first | exact Or.inl rfl | exact Or.inr rfl)) pgs_nil)))) (fun _ _ _ _ _ => pts_nil) (fun _ _ _ _ _ => (pe_ifExp (pt_cmpR op_eq (pv 4) pe_str (nomark _)) (pe_own gFrozen (hr.mono (by omega)) (by rfl) (pa_cons (pv 5) pa_nil)) (pv 5))))
      (pss_one (ps_expr (pe_bm PySem.F.plainAttrs_list PySem.F.slot_list_append PySem.F.type_list_append mt_append (pv 1) (pa_cons (pe_op op_catA (pe_tup (pa_cons (pe_ix ix_seq (pv 2) pe_int (fun _ _ => rfl)) pa_nil)) (pe_callTy call_tuple_of (by rfl) B.tuple (by decide +kernel) (pa_cons (pv 3) pa_nil))) pa_nil))))))
      (pss_one (ps_ret (pe_callTy call_tuple_of (by rfl) B.tuple (by decide +kernel) (pa_cons (pv 1) pa_nil)))))), ?_⟩
  refine ⟨Nat.zero_le _, fun l nl => ?_⟩
  have s0 : Same H (upd H l (.lst [])) := Same.new nl
  refine ⟨_, rfl, a, kd, xs, rfl, sq_of (s0 _ _ ha), ?_⟩
  refine for_it walk_seq (fun i σ H' => Same H H' ∧ (∃ v2 v3 v4 v5, σ = [some (.ref a), some (.ref l), v2, v3, v4, v5]) ∧ ∃ zs, H' l = some (.lst zs) ∧ Paired (RowAt (fun x => H x = none ∧ x ≠ l) tupK H' d) zs (rs.take i))
    ⟨s0, ⟨none, none, none, none, rfl⟩, [], upd_same, .nil⟩ (fun i σ H' _ ⟨sm, _⟩ => sq_of (sm _ _ ha)) ?_ ?_
  · rintro i x σ H1 H2 hi ⟨sm, ⟨v2, v3, v4, v5, rfl⟩, zs, hl, hzs⟩ ⟨rfl, hx⟩
    obtain ⟨r, hr', hrow⟩ := paired_get hxs hx
    have rok := hok r (List.mem_of_getElem? hr')
    have rf := rowF_of rok
    have few := rf.few
    have hrow1 : RowAt ok kk H2 d x r := hrow.to (Keep.fr (Fr.same sm) fun _ k => k)
    obtain ⟨rest, ⟨ra, rkd, rfl, roka, rkka, hra⟩, hrest⟩ := rowV_of rok hrow1
    have lr : rest.length = (flds r).length := paired_len hrest
    have hfs := fieldsOf_some rf.names
    obtain ⟨tA, hn, htA⟩ := TF.val _ hfs
    have ix : ∀ {Q' : VK}, Q' (.str (rowWord r)) H2 → rIx K (.ref ra) (.int 0) H2 Q' := fun h => rIx_seq (sq_of hra) (atI_nat (j := 0) rfl) h
    refine ⟨_, rfl, ix ⟨dF, rowWord r, .ref tA, rfl, rfl, ⟨es, nn, .ref tA, D.at_, D.lit, hn, rfl⟩, ?_⟩⟩
    refine ⟨_, rfl, 1, rfl, rSl1 hra fun p G smG np hp => ?_⟩
    have hlG : G l = some (.lst zs) := smG _ _ hl
    refine ⟨tA, p, false, rkd, _, rest, rfl, htA G, sq_of hp, fun L nL => ?_⟩
    have nLH : H L = none := Same.free (Same.trans sm smG) nL
    have Ll : L ≠ l := fun e => by rw [e, hlG] at nL; cases nL
    refine lc_it (walk_zipQ (n := (flds r).length) (by rw [List.length_map, List.length_map]; omega)) (fun i H' => Same G H' ∧ ∃ ys, H' L = some (.lst ys) ∧ Paired (fun x (f : Str × Fl) => FlAt (fun x => H x = none ∧ x ≠ l ∧ x ≠ L) tupK H' d x f.2) ys ((flds r).take i))
      ⟨Same.new nL, [], upd_same, .nil⟩ (fun i H' _ ⟨s4, _⟩ => ⟨htA H', sq_of (s4 _ _ hp)⟩) ?_ ?_
    · rintro i2 y H3 H4 hi2 ⟨s4, ys, hL, hys⟩ ⟨T, x1, x2, rfl, nT, rfl, e1, e2⟩
      obtain ⟨ff, hff, hx2⟩ := paired_get hrest e2
      obtain rfl : x1 = .str ff.1 := by
        have e1' : (((flds r).map (·.1)).map V.str)[i2]? = some x1 := e1
        rw [List.getElem?_map, List.getElem?_map, hff] at e1'
        exact (Option.some.inj e1').symm
      have fok := rf.ok ff (List.mem_of_getElem? hff)
      have s5 : Same G (upd H3 T (.tup [.str ff.1, x2])) := Same.trans s4 (Same.new nT)
      have nLT : L ≠ T := ne_of_none hL nT
      have hL2 : (upd H3 T (.tup [.str ff.1, x2])) L = some (.lst ys) := by rw [upd_ne nLT]; exact hL
      have et : (flds r).take (i2 + 1) = (flds r).take i2 ++ [ff] := by rw [List.take_add_one, hff]; rfl
      have ly : ys.length ≤ 3 := by rw [paired_len hys, List.length_take]; omega
      have hys2 : ∀ {H5 : Hp} {z : V}, Same (upd H3 T (.tup [.str ff.1, x2])) H5 → Paired (fun x (f : Str × Fl) => FlAt (fun x => H x = none ∧ x ≠ l ∧ x ≠ L) tupK (upd H5 L (.lst (ys ++ [z]))) d x f.2) ys ((flds r).take i2) := fun {H5 z} s6 =>
        paired_imp hys fun v f h => h.to fun x kd zs k e => ⟨k, by rw [upd_ne k.2.2]; exact s6 _ _ (Same.new nT _ _ e)⟩
      refine ⟨T, _, rfl, SqT.of upd_same, rfl, _, _, rfl, _, _, rfl, rfl, rfl, ?_⟩
      refine ⟨_, rfl, rfl, _, rfl, ite2 (fun c => ?_) (fun c => ?_)⟩
      · have ec : ff.1 = "block" := V.str.inj (of_decide_eq_true c)
        cases hfl : ff.2 with
        | «at» v =>
          rw [hfl] at fok
          rcases fok with ⟨h, _⟩ | ⟨h, _⟩
          · rw [ec] at h; exact absurd h (by decide)
          · rw [ec] at h; exact absurd h (by decide)
        | blk b =>
          rw [hfl] at hx2 fok
          obtain ⟨e, rfl, hrows⟩ := hx2
          obtain ⟨_, e', he', h8, hr8⟩ := fok
          have : e = e' := Nat.succ.inj he'
          subst this
          have eF := hF e rfl
          subst eF
          have s2G : Same H2 (upd H3 T (.tup [.str ff.1, x2])) := Same.trans smG s5
          refine ⟨_, rfl, x2, ok, kk, _, b, rfl, hrows.to (Keep.fr (Fr.same s2G) fun _ k => k), by omega, hr8, fun H5 v' s6 hv' => ?_⟩
          refine ⟨ys, s6 _ _ hL2, small (by omega), Same.upN (Same.trans s5 s6) nL, ys ++ [v'], upd_same, ?_⟩
          rw [et]
          refine paired_app ?_ (hys2 s6)
          show FlAt _ tupK _ _ v' ff.2
          rw [hfl]
          refine ⟨e, rfl, hv'.to fun x kd zs k e => ?_⟩
          have xL : x ≠ L := fun z => by rw [z, hL2] at k; cases k
          have xl : x ≠ l := fun z => by rw [z, s5 _ _ hlG] at k; cases k
          exact ⟨⟨Same.free (Same.trans sm (Same.trans smG s5)) k, xl, xL⟩, by rw [upd_ne xL]; exact e⟩
      · have ec : ff.1 ≠ "block" := fun h => c (by rw [h]; exact decide_eq_true rfl)
        cases hfl : ff.2 with
        | blk b =>
          rw [hfl] at fok
          exact absurd fok.1 ec
        | «at» v =>
          rw [hfl] at hx2
          refine ⟨_, rfl, ys, hL2, small (by omega), Same.upN s5 nL, ys ++ [x2], upd_same, ?_⟩
          rw [et]
          refine paired_app ?_ (hys2 (Same.refl _))
          show FlAt _ tupK _ _ x2 ff.2
          rw [hfl]
          exact hx2
    · rintro H3 ⟨s4, ys, hL, hys⟩
      rw [List.take_length] at hys
      have ly : ys.length = (flds r).length := paired_len hys
      have one := rf.one
      have hra3 : H3 ra = some (mkO rkd (.str (rowWord r) :: rest)) := s4 _ _ (smG _ _ hra)
      have hl3 : H3 l = some (.lst zs) := s4 _ _ hlG
      -- found.append((row[0],) + tuple(parts))
      refine ⟨_, rfl, .inl ⟨rfl, _, SqL.of hl3⟩, ?_⟩
      refine ⟨_, rfl, rIx_seq (sq_of hra3) (atI_nat (j := 0) rfl) ⟨(by show 1 ≤ sizeLine; decide), fun t1 nt1 => ?_⟩⟩
      have hL4 : (upd H3 t1 (.tup [.str (rowWord r)])) L = some (.lst ys) := Same.new nt1 _ _ hL
      refine ⟨_, rfl, L, ys, rfl, .inl ⟨SqL.of hL4, fun t2 nt2 => ?_⟩⟩
      have ht1 : (upd (upd H3 t1 (.tup [.str (rowWord r)])) t2 (.tup ys)) t1 = some (.tup [.str (rowWord r)]) := Same.new nt2 _ _ upd_same
      have yne : ys ≠ [] := fun e => by rw [e] at ly; simp at ly; omega
      refine ⟨t1, t2, _, ys, rfl, rfl, SqT.of ht1, SqT.of upd_same, smallE (by simp; omega), fun e => (nomatch e), fun _ e => absurd e yne, fun _ _ t3 nt3 => ?_⟩
      have s6 : Same H3 (upd (upd (upd H3 t1 (.tup [.str (rowWord r)])) t2 (.tup ys)) t3 (.tup ([.str (rowWord r)] ++ ys))) := Same.trans (Same.new nt1) (Same.trans (Same.new nt2) (Same.new nt3))
      have h3 : (upd (upd (upd H3 t1 (.tup [.str (rowWord r)])) t2 (.tup ys)) t3 (.tup ([.str (rowWord r)] ++ ys))) t3 = some (.tup (.str (rowWord r) :: ys)) := upd_same
      have n3 : H3 t3 = none := Same.free (Same.trans (Same.new nt1) (Same.new nt2)) nt3
      generalize hG6 : upd (upd (upd H3 t1 _) t2 _) t3 _ = G6 at *
      have sH6 : Same H G6 := Same.trans sm (Same.trans smG (Same.trans s4 s6))
      have lz : zs.length ≤ 24 := by rw [paired_len hzs, List.length_take]; omega
      have n3H : H t3 = none := Same.free (Same.trans sm (Same.trans smG s4)) n3
      have t3l : t3 ≠ l := fun e => by rw [e, hl3] at n3; cases n3
      refine ⟨l, zs, _, rfl, rfl, s6 _ _ hl3, small (by omega), Same.upN sH6 nl, ⟨_, _, _, _, rfl⟩, zs ++ [.ref t3], upd_same, ?_⟩
      have et : rs.take (i + 1) = rs.take i ++ [r] := by rw [List.take_add_one, hr']; rfl
      rw [et]
      refine paired_app ?_ (paired_imp hzs fun v r h => h.to fun x kd ws k e => ⟨k, by rw [upd_ne k.2]; exact s6 _ _ (s4 _ _ (smG _ _ e))⟩)
      refine rowAt_of rok ⟨t3, false, rfl, ⟨n3H, t3l⟩, rfl, by rw [upd_ne t3l]; exact h3⟩ (paired_imp hys fun v f h => h.to fun x kd ws k e => ⟨⟨k.1, k.2.1⟩, by rw [upd_ne k.2.1]; exact s6 _ _ e⟩)
  · rintro σ H1 ⟨sm, ⟨v2, v3, v4, v5, rfl⟩, zs, hl, hzs⟩
    rw [paired_len hxs, List.take_length] at hzs
    refine ⟨_, rfl, l, zs, rfl, .inl ⟨SqL.of hl, fun t nt => ?_⟩⟩
    refine q _ _ (Same.trans sm (Same.new nt)) ⟨zs, ⟨t, false, rfl, Same.free sm nt, rfl, upd_same⟩, paired_imp hzs fun v r h => h.to fun x kd ws k e => ⟨k.1, Same.new nt _ _ e⟩⟩
theorem frozen_ok {f dF : Addr} {fd : FuncData} (F : Fun K "frozen" "frozen" sFrozen f fd) (B : Bl mg) (TF : FldT K w mg dF) (m : mg "frozen" = some (.ref f)) (b : Binds K fd ["rows"] []) :
    ∀ d : Nat, Own P w K mg base (1 + d) "frozen" ["rows"] (spFrozen d)
  | 0 => own_mk F m b (ok_Frozen (k := 0) F B TF (own_mk F m b fn_false) (fun e h => absurd h (by omega)))
  | d + 1 => own_mk F m b (ok_Frozen (k := 1 + d) F B TF (frozen_ok F B TF m b d) (fun e h => by
      have : d = e := by omega
      rw [this]))
end
end Ft
set_option Elab.async false
set_option linter.all false
set_option maxRecDepth 100000
set_option maxHeartbeats 4000000
namespace Ft
open PySem L2
def rowW : Nat → List Int → Row × Nat → List (List Int × Row)
  | 0, path, p => [(path ++ [(p.2 : Int)], p.1)]
  | d + 1, path, p => (path ++ [(p.2 : Int)], p.1) :: (blocks p.1).zipIdx.flatMap fun q => q.1.zipIdx.flatMap (rowW d (path ++ [(p.2 : Int), (q.2 : Int)]))
def walkL (d : Nat) (path : List Int) (rs : List Row) : List (List Int × Row) := rs.zipIdx.flatMap (rowW d path)
/-- what the block q of the row i gives -/
def blkW (d : Nat) (path : List Int) (i : Nat) (q : List Row × Nat) : List (List Int × Row) := match d with
  | 0 => []
  | e + 1 => walkL e (path ++ [(i : Int), (q.2 : Int)]) q.1
theorem rowW_eq {d : Nat} {wi : Bool} {r : Row} (h : RowOk d wi r) (path : List Int) (i : Nat) : rowW d path (r, i) = (path ++ [(i : Int)], r) :: (blocks r).zipIdx.flatMap (blkW d path i) := by
  cases d with
  | zero =>
    cases r with
    | plain w fs => rfl
    | _ => exact h.elim
  | succ d => rfl
def cW : Nat → Nat
  | 0 => 1
  | d + 1 => 1 + 48 * cW d
theorem flat_len {α β : Type} {f : α → List β} {c : Nat} : ∀ {l : List α}, (∀ x ∈ l, (f x).length ≤ c) → (l.flatMap f).length ≤ l.length * c
  | [], _ => by simp
  | x :: l, h => by
    rw [List.flatMap_cons, List.length_append, List.length_cons, Nat.succ_mul]
    have h1 := h x (by simp)
    have h2 := flat_len (l := l) fun y hy => h y (by simp [hy])
    omega
theorem mem_zipIdx_fst {α : Type} {l : List α} {p : α × Nat} (h : p ∈ l.zipIdx) : p.1 ∈ l := by
  obtain ⟨x, i⟩ := p
  exact (List.mem_zipIdx' h).2 ▸ List.getElem_mem _
theorem blk_ok {d : Nat} {wi : Bool} {r : Row} (h : RowOk d wi r) {b : List Row} (hb : b ∈ blocks r) : ∃ e, d = e + 1 ∧ b.length ≤ 24 ∧ ∀ r' ∈ b, RowOk e (wi || decide (rowWord r = "make")) r' := by
  have rf := rowF_of h
  rw [rf.blk] at hb
  obtain ⟨ff, hff, eff⟩ := List.mem_filterMap.mp hb
  have fok := rf.ok ff hff
  cases hfl : ff.2 with
  | «at» v => rw [hfl] at eff; cases eff
  | blk b2 =>
    rw [hfl] at eff fok
    have e2 : b2 = b := Option.some.inj eff
    subst e2
    exact fok.2
theorem blk_ok8 {d : Nat} {wi : Bool} {r : Row} (h : RowO8 d wi r) {b : List Row} (hb : b ∈ blocks r) : ∃ e, d = e + 1 ∧ b.length ≤ 8 ∧ ∀ r' ∈ b, RowO8 e (wi || decide (rowWord r = "make")) r' := by
  cases d with
  | zero =>
    cases r with
    | plain w fs => cases hb
    | _ => exact h.elim
  | succ d =>
    refine ⟨d, rfl, ?_⟩
    cases r with
    | plain w fs => cases hb
    | make n b1 =>
      obtain ⟨h1, _, h3, h4⟩ := h
      obtain rfl := List.mem_singleton.mp hb
      subst h1
      exact ⟨h3, h4⟩
    | when n b1 c =>
      obtain ⟨_, h2, h3, h4, h5⟩ := h
      rw [show (wi || decide (rowWord (.when n b1 c) = "make")) = wi by cases wi <;> rfl]
      rcases List.mem_cons.mp hb with rfl | hb
      · exact ⟨h2, h4⟩
      · obtain rfl := List.mem_singleton.mp hb
        exact ⟨h3, h5⟩
    | try_ b1 c =>
      obtain ⟨h2, h3, h4, h5⟩ := h
      rw [show (wi || decide (rowWord (.try_ b1 c) = "make")) = wi by cases wi <;> rfl]
      rcases List.mem_cons.mp hb with rfl | hb
      · exact ⟨h2, h4⟩
      · obtain rfl := List.mem_singleton.mp hb
        exact ⟨h3, h5⟩
theorem blocks_len {d : Nat} {wi : Bool} {r : Row} (h : RowOk d wi r) : (blocks r).length ≤ 2 := by cases r <;> simp [blocks]
theorem rowW_len : ∀ {d : Nat} {wi : Bool} {r : Row}, RowOk d wi r → ∀ (path : List Int) (i : Nat), (rowW d path (r, i)).length ≤ cW d := by
  intro d
  induction d with
  | zero => intro wi r _ path i; exact Nat.le_refl 1
  | succ d ih =>
    intro wi r h path i
    have b3 := blocks_len h
    show (_ :: _ : List (List Int × Row)).length ≤ 1 + 48 * cW d
    rw [List.length_cons]
    have : ((blocks r).zipIdx.flatMap fun q => q.1.zipIdx.flatMap (rowW d (path ++ [(i : Int), (q.2 : Int)]))).length ≤ (blocks r).zipIdx.length * (24 * cW d) := flat_len fun q hq => by
      obtain ⟨e, he, h8, hr⟩ := blk_ok h (mem_zipIdx_fst hq)
      have : d = e := Nat.succ.inj he
      subst this
      have h1 : (q.1.zipIdx.flatMap (rowW d (path ++ [(i : Int), (q.2 : Int)]))).length ≤ q.1.zipIdx.length * cW d := flat_len fun p hp => by
        obtain ⟨r', j⟩ := p
        exact ih (hr r' (mem_zipIdx_fst hp)) _ _
      rw [List.length_zipIdx] at h1
      exact Nat.le_trans h1 (Nat.mul_le_mul_right _ h8)
    rw [List.length_zipIdx] at this
    have h2 : (blocks r).length * (24 * cW d) ≤ 2 * (24 * cW d) := Nat.mul_le_mul_right _ b3
    exact Nat.le_trans (Nat.succ_le_succ (Nat.le_trans this h2)) (by omega)
theorem walkL_len {d n : Nat} {wi : Bool} {rs : List Row} (hl : rs.length ≤ n) (h : ∀ r ∈ rs, RowOk d wi r) (path : List Int) : (walkL d path rs).length ≤ n * cW d := by
  have h1 : (walkL d path rs).length ≤ rs.zipIdx.length * cW d := flat_len fun p hp => by
    obtain ⟨r, i⟩ := p
    exact rowW_len (h r (mem_zipIdx_fst hp)) _ _
  rw [List.length_zipIdx] at h1
  exact Nat.le_trans h1 (Nat.mul_le_mul_right _ hl)
/-- a pair of a path and a row -/
def WAt (ok : Addr → Prop) (kk : Bool → Bool → Prop) (H : Hp) (d : Nat) (v : V) (q : List Int × Row) : Prop := ∃ T pv rv, v = .ref T ∧ H T = some (.tup [pv, rv]) ∧ PathAt H pv q.1 ∧ RowAt ok kk H d rv q.2
structure KT (ok ok' : Addr → Prop) (H H' : Hp) : Prop where
  k : Keep ok ok' H H'
  t : ∀ b xs, H b = some (.tup xs) → H' b = some (.tup xs)
theorem PathAt.to {H H' : Hp} {v : V} {p : List Int} (h : PathAt H v p) (t : ∀ b xs, H b = some (.tup xs) → H' b = some (.tup xs)) : PathAt H' v p := by
  obtain ⟨a, e, h⟩ := h
  exact ⟨a, e, t _ _ h⟩
theorem WAt.to {ok ok' : Addr → Prop} {kk : Bool → Bool → Prop} {H H' : Hp} {d : Nat} {v : V} {q : List Int × Row} (h : WAt ok kk H d v q) (t : KT ok ok' H H') : WAt ok' kk H' d v q := by
  obtain ⟨T, pv, rv, e, hT, hp, hr⟩ := h
  exact ⟨T, pv, rv, e, t.t _ _ hT, hp.to t.t, hr.to t.k⟩
theorem KT.same {ok : Addr → Prop} {H H' : Hp} (s : Same H H') : KT ok ok H H' := ⟨Keep.fr (Fr.same s) fun _ k => k, fun b xs e => s _ _ e⟩
theorem KT.lst {ok ok' : Addr → Prop} {H : Hp} {l : Addr} {xs ys : List V} (hl : H l = some (.lst xs)) (h : ∀ x, ok x → x ≠ l) (h' : ∀ x, ok x → ok' x) : KT ok ok' H (upd H l (.lst ys)) :=
  ⟨fun x kd zs k e => ⟨h' x k, by rw [upd_ne (h x k)]; exact e⟩, fun b zs e => by
    rw [upd_ne (fun z => by rw [z, hl] at e; cases e)]; exact e⟩
theorem KT.trans {o1 o2 o3 : Addr → Prop} {H1 H2 H3 : Hp} (a : KT o1 o2 H1 H2) (b : KT o2 o3 H2 H3) : KT o1 o3 H1 H3 := ⟨a.k.trans b.k, fun x xs e => b.t _ _ (a.t _ _ e)⟩
theorem paired_cat {α β : Type} {R : α → β → Prop} : ∀ {xs : List α} {ys : List β} {xs' : List α} {ys' : List β}, Paired R xs ys → Paired R xs' ys' → Paired R (xs ++ xs') (ys ++ ys')
  | _, _, _, _, .nil, h => h
  | _, _, _, _, .cons r t, h => .cons r (paired_cat t h)
section
variable {P : Program} {w : World} {K : PySem.W.Frag} {mg : Str → Option Value} {base : Heap}
abbrev sWalked : Stmt := topS 20
theorem scWalked : FnScope ["rows", "path", "found", "k", "row", "b", "block"] ["rows", "path"] (defScope sWalked) := ⟨rfl, rfl, rfl, by decide +kernel, rfl, by decide +kernel, by decide +kernel⟩
def spWalked (d : Nat) : Sp := fun vs H Q _ => ∃ (v pv : V) (ok : Addr → Prop) (kk : Bool → Bool → Prop) (wi : Bool) (rs : List Row) (p : List Int), vs = [v, pv] ∧ RowsAt ok kk H d v rs ∧ rs.length ≤ 24 ∧ (∀ r ∈ rs, RowOk d wi r) ∧ d ≤ 3 ∧ PathAt H pv p ∧ p.length + 2 * d ≤ 100 ∧
  ∀ H' l zs, Same H H' → H l = none → H' l = some (.lst zs) → Paired (WAt ok kk H' d) zs (walkL d p rs) → Q (.ref l) H'
theorem ok_Walked {f : Addr} {fd : FuncData} {k d : Nat} {spF : Sp} (F : Fun K "walked" "walked" sWalked f fd) (B : Bl mg) (hk : 1 ≤ k) (gBlocksOf : Own P w K mg base 1 "blocks_of" ["row"] spBlocksOf)
    (gWalked : Own P w K mg base k "walked" ["rows", "path"] spF) (hF : ∀ e, d = e + 1 → spF = spWalked e) : FnOk P w K mg base CX0 (k + 1) f fd ["rows", "path"] (spWalked d) := by
  refine F.ok scWalked (fun vs H Q E h => ?_) (fun cdv A outer s H vs Q E hr h => ?_)
  · obtain ⟨v, pv, ok, kk, wi, rs, p, rfl, _⟩ := h
    rfl
  obtain ⟨v, pv, ok, kk, wi, rs, p, rfl, hrs, hlen, hok, hd3, ⟨pa, rfl, hpa⟩, hpl, q⟩ := h
  refine ⟨_, (pss_cons (ps_set (i := 2) scWalked.nd rfl (by first | exact Or.inl rfl | exact Or.inr rfl) (pe_lst pa_nil))
      (pss_cons (ps_for PassesOwn.never rfl (pi_enumQ (by rfl) B.enumerate (pa_cons (pv 0) pa_nil)) (pg_tup (by rfl) (pgs_cons (pg_name (i := 3) scWalked.nd rfl (by first | exact Or.inl rfl | exact Or.inr rfl)) (pgs_cons (pg_name (i := 4) scWalked.nd rfl (by first | exact Or.inl rfl | exact Or.inr rfl)) pgs_nil))) (pss_cons (ps_expr (pe_bm PySem.F.plainAttrs_list PySem.F.slot_list_append PySem.F.type_list_append mt_append (pv 2) (pa_cons (pe_tup (pa_cons (pe_mid (pe_op op_catA (pv 1) (pe_tup (pa_cons (pv 3) pa_nil)))) (pa_cons (pv 4) pa_nil))) pa_nil)))
      (pss_one (ps_for PassesOwn.never rfl (pi_enumQ (by rfl) B.enumerate (pa_cons (pe_own gBlocksOf (hr.mono (by omega)) (by rfl) (pa_cons (pv 4) pa_nil)) pa_nil)) (pg_tup (by rfl) (pgs_cons (pg_name (i := 5) scWalked.nd rfl (by first | exact Or.inl rfl | exact Or.inr rfl)) (pgs_cons (pg_name (i := 6) scWalked.nd rfl (by first | exact Or.inl rfl | exact Or.inr rfl)) pgs_nil))) (pss_one (ps_expr (pe_bm PySem.F.plainAttrs_list PySem.F.slot_list_extend PySem.F.type_list_extend mt_extend (pv 2) (pa_cons (pe_own gWalked (hr.mono (by omega)) (by rfl) (pa_cons (pv 6) (pa_cons (pe_mid (pe_op op_catA (pv 1) (pe_tup (pa_cons (pv 3) (pa_cons (pv 5) pa_nil))))) pa_nil))) pa_nil))))))))
      (pss_one (ps_ret (pv 2))))), ?_⟩
  have c3 : cW d ≤ 112945 := by
    have : cW 3 = 112945 := by decide
    have h4 : d = 0 ∨ d = 1 ∨ d = 2 ∨ d = 3 := by omega
    rcases h4 with e | e | e | e <;> subst e <;> decide
  refine ⟨Nat.zero_le _, fun l nl => ?_⟩
  have s0 : Same H (upd H l (.lst [])) := Same.new nl
  have hrs2 : RowsAt (fun x => ok x ∧ x ≠ l) kk H d v rs := hrs.to (Keep.mono fun x k hx => ⟨k, fun e => hx (by rw [e]; exact nl)⟩)
  obtain ⟨xs, ⟨a, kd, rfl, oka, kka, ha⟩, hxs⟩ := hrs2
  refine ⟨_, rfl, a, kd, xs, rfl, sq_of (s0 _ _ ha), ?_⟩
  refine for_it walk_enumQ (fun i σ H' => Same H H' ∧ (∃ v3 v4 v5 v6, σ = [some (.ref a), some (.ref pa), some (.ref l), v3, v4, v5, v6]) ∧ ∃ zs, H' l = some (.lst zs) ∧ Paired (WAt (fun x => ok x ∧ x ≠ l) kk H' d) zs ((rs.zipIdx.take i).flatMap (rowW d p)))
    ⟨s0, ⟨none, none, none, none, rfl⟩, [], upd_same, .nil⟩ (fun i σ H' _ ⟨sm, _⟩ => sq_of (sm _ _ ha)) ?_ ?_
  · rintro i x σ H1 H2 hi ⟨sm, ⟨v3, v4, v5, v6, rfl⟩, zs, hl, hzs⟩ ⟨T, x1, x2, rfl, nT, rfl, e1, e2⟩
    have e1' : x1 = .int (i : Nat) := (Option.some.inj e1).symm
    subst e1'
    obtain ⟨r, hr', hrow⟩ := paired_get hxs e2
    have rok := hok r (List.mem_of_getElem? hr')
    have b3 := blocks_len rok
    have s2 : Same H1 (upd H1 T (.tup [.int (i : Nat), x2])) := Same.new nT
    refine ⟨T, _, rfl, SqT.of upd_same, rfl, _, _, rfl, _, _, rfl, rfl, ?_⟩
    have lz : zs.length ≤ 24 * cW d := by
      rw [paired_len hzs]
      have h1 : ((rs.zipIdx.take i).flatMap (rowW d p)).length ≤ (rs.zipIdx.take i).length * cW d := flat_len fun q hq => by
        obtain ⟨r', j⟩ := q
        exact rowW_len (hok r' (mem_zipIdx_fst (List.mem_of_mem_take hq))) _ _
      have h2 : (rs.zipIdx.take i).length ≤ 24 := by rw [List.length_take, List.length_zipIdx]; omega
      exact Nat.le_trans h1 (Nat.mul_le_mul_right _ h2)
    generalize hG : upd H1 T _ = G at *
    have sG : Same H G := Same.trans sm s2
    have hlG : G l = some (.lst zs) := s2 _ _ hl
    have hzsG := paired_imp hzs fun v q h => WAt.to h (KT.same s2)
    -- found.append((path + (k,), row))
    refine ⟨_, rfl, .inl ⟨rfl, _, SqL.of hlG⟩, ⟨fun v H' => ∃ b, v = .ref b ∧ H' b = some (.tup ((p ++ [(i : Int)]).map V.int)) ∧ Same G H', ?_, ?_⟩⟩
    · refine ⟨_, rfl, _, rfl, (by show 1 ≤ sizeLine; decide), fun t1 nt1 => ?_⟩
      refine ⟨pa, t1, p.map V.int, [.int (i : Nat)], rfl, rfl, SqT.of (Same.new nt1 _ _ (sG _ _ hpa)), SqT.of upd_same, smallE (by rw [List.length_map]; simp; omega), fun e => ?_, fun _ e => (nomatch e), fun _ _ t2 nt2 => ?_⟩
      · have ep : p = [] := List.map_eq_nil_iff.mp e
        subst ep
        exact ⟨t1, rfl, upd_same, Same.new nt1⟩
      · exact ⟨t2, rfl, by rw [upd_same, List.map_append]; rfl, Same.trans (Same.new nt1) (Same.new nt2)⟩
    rintro hv G1 ⟨hb, rfl, hhb, s3⟩
    refine ⟨_, rfl, (by show 2 ≤ sizeLine; decide), fun t3 nt3 => ?_⟩
    have s4 : Same G (upd G1 t3 (.tup [.ref hb, x2])) := Same.trans s3 (Same.new nt3)
    have hhb4 : (upd G1 t3 (.tup [.ref hb, x2])) hb = some (.tup ((p ++ [(i : Int)]).map V.int)) := Same.new nt3 _ _ hhb
    have ht3 : (upd G1 t3 (.tup [.ref hb, x2])) t3 = some (.tup [.ref hb, x2]) := upd_same
    generalize hG2 : upd G1 t3 _ = G2 at *
    have sG2 : Same H G2 := Same.trans sG s4
    have hl2 : G2 l = some (.lst zs) := s4 _ _ hlG
    refine ⟨l, zs, _, rfl, rfl, hl2, big (by omega), ?_⟩
    have kt2 : KT (fun x => ok x ∧ x ≠ l) (fun x => ok x ∧ x ≠ l) G2 (upd G2 l (.lst (zs ++ [.ref t3]))) := KT.lst hl2 (fun x k => k.2) fun x k => k
    have w3 : WAt (fun x => ok x ∧ x ≠ l) kk G2 d (.ref t3) (p ++ [(i : Int)], r) := ⟨t3, _, _, rfl, ht3, ⟨hb, rfl, hhb4⟩, hrow.to (Keep.fr (Fr.same sG2) fun _ k => k)⟩
    have hzs3 : Paired (WAt (fun x => ok x ∧ x ≠ l) kk (upd G2 l (.lst (zs ++ [.ref t3]))) d) (zs ++ [.ref t3]) ((rs.zipIdx.take i).flatMap (rowW d p) ++ [(p ++ [(i : Int)], r)]) :=
      paired_app (w3.to kt2) (paired_imp hzsG fun v q h => (h.to (KT.same s4)).to kt2)
    have hl3 : (upd G2 l (.lst (zs ++ [.ref t3]))) l = some (.lst (zs ++ [.ref t3])) := upd_same
    have sG3 : Same H (upd G2 l (.lst (zs ++ [.ref t3]))) := Same.upN sG2 nl
    generalize hG3 : upd G2 l _ = G3 at *
    -- the blocks
    have hrow3 : RowAt (fun x => ok x ∧ x ≠ l) kk G3 d x2 r := hrow.to (Keep.fr (Fr.same sG3) fun _ k => k)
    refine ⟨_, rfl, x2, (fun x => ok x ∧ x ≠ l), kk, d, wi, r, rfl, rok, hrow3, fun G4 bl ys s5 nb hbl hys => ?_⟩
    have lb : ys.length ≤ 2 := by rw [paired_len hys]; exact b3
    have lbl : bl ≠ l := fun e => by rw [e, hl3] at nb; cases nb
    refine ⟨bl, true, ys, rfl, sq_of hbl, ?_⟩
    have sG4 : Same H G4 := Same.trans sG3 s5
    refine for_it walk_enumQ (fun j σ H' => Same H H' ∧ H' bl = some (.lst ys) ∧ (∀ b xs, G3 b = some (.tup xs) → H' b = some (.tup xs)) ∧ (∃ v5 v6, σ = [some (.ref a), some (.ref pa), some (.ref l), some (.int (i : Nat)), some x2, v5, v6]) ∧
        ∃ zs, H' l = some (.lst zs) ∧ Paired (WAt (fun x => ok x ∧ x ≠ l) kk H' d) zs ((rs.zipIdx.take i).flatMap (rowW d p) ++ [(p ++ [(i : Int)], r)] ++ ((blocks r).zipIdx.take j).flatMap (blkW d p i)) ∧ Keep (fun x => ok x ∧ x ≠ l) (fun x => ok x ∧ x ≠ l) G3 H')
      ⟨sG4, hbl, fun b xs e => s5 _ _ e, ⟨v5, v6, rfl⟩, zs ++ [.ref t3], s5 _ _ hl3, ?_, Keep.fr (Fr.same s5) fun _ k => k⟩ (fun j σ H' _ ⟨_, h, _⟩ => sq_of (kd := true) h) ?_ ?_
    · rw [List.take_zero, List.flatMap_nil, List.append_nil]
      exact paired_imp hzs3 fun v q h => h.to (KT.same s5)
    · rintro j y σ H3 H4 hj ⟨sm4, hbl4, htup4, ⟨w5, w6, rfl⟩, zs4, hl4, hzs4, kp4⟩ ⟨T2, y1, y2, rfl, nT2, rfl, f1, f2⟩
      have f1' : y1 = .int (j : Nat) := (Option.some.inj f1).symm
      subst f1'
      obtain ⟨b, hb', e, rfl, hrows⟩ := paired_get hys f2
      have eF := hF e rfl
      subst eF
      obtain ⟨e', he', h8, hr8⟩ := blk_ok rok (List.mem_of_getElem? hb')
      have ee : e = e' := Nat.succ.inj he'
      subst ee
      have s6 : Same H3 (upd H3 T2 (.tup [.int (j : Nat), y2])) := Same.new nT2
      refine ⟨T2, _, rfl, SqT.of upd_same, rfl, _, _, rfl, _, _, rfl, rfl, ?_⟩
      generalize hG5 : upd H3 T2 _ = G5 at *
      have hl5 : G5 l = some (.lst zs4) := s6 _ _ hl4
      have sH5 : Same H G5 := Same.trans sm4 s6
      refine ⟨_, rfl, .inl ⟨rfl, _, SqL.of hl5⟩, _, rfl, ⟨fun v H' => ∃ c, v = .ref c ∧ H' c = some (.tup ((p ++ [(i : Int), (j : Int)]).map V.int)) ∧ Same G5 H', ?_, ?_⟩⟩
      · refine ⟨_, rfl, _, rfl, _, rfl, (by show 2 ≤ sizeLine; decide), fun t1 nt1 => ?_⟩
        refine ⟨pa, t1, p.map V.int, [.int (i : Nat), .int (j : Nat)], rfl, rfl, SqT.of (Same.new nt1 _ _ (sH5 _ _ hpa)), SqT.of upd_same, smallE (by rw [List.length_map]; simp; omega), fun e => ?_, fun _ e => (nomatch e), fun _ _ t2 nt2 => ?_⟩
        · have ep : p = [] := List.map_eq_nil_iff.mp e
          subst ep
          exact ⟨t1, rfl, upd_same, Same.new nt1⟩
        · exact ⟨t2, rfl, by rw [upd_same, List.map_append]; rfl, Same.trans (Same.new nt1) (Same.new nt2)⟩
      rintro cv G6 ⟨c, rfl, hc, s7⟩
      have s36 : Same H3 G6 := Same.trans s6 s7
      have hrows6 : RowsAt (fun x => ok x ∧ x ≠ l) kk G6 e y2 b := hrows.to (kp4.trans (Keep.fr (Fr.same s36) fun _ k => k))
      refine ⟨y2, .ref c, (fun x => ok x ∧ x ≠ l), kk, _, b, p ++ [(i : Int), (j : Int)], rfl, hrows6, by omega, hr8, by omega, ⟨c, rfl, hc⟩, by simp; omega, fun G7 l2 zs2 s8 nl2 hl2' hzs2 => ?_⟩
      have hl7 : G7 l = some (.lst zs4) := s8 _ _ (s7 _ _ hl5)
      have s37 : Same H3 G7 := Same.trans s36 s8
      have ce : 8 * cW e ≤ 8 * cW (e + 1) := by
        have : cW (e + 1) = 1 + 48 * cW e := rfl
        omega
      have lz2 : zs2.length ≤ 24 * cW e := by rw [paired_len hzs2]; exact walkL_len h8 hr8 _
      have lz4 : zs4.length ≤ 24 * cW (e + 1) + 1 + 2 * (24 * cW e) := by
        rw [paired_len hzs4, List.length_append, List.length_append, List.length_singleton]
        have h1 : ((rs.zipIdx.take i).flatMap (rowW (e + 1) p)).length ≤ 24 * cW (e + 1) := by rw [← paired_len hzs]; exact lz
        have h2 : (((blocks r).zipIdx.take j).flatMap (blkW (e + 1) p i)).length ≤ ((blocks r).zipIdx.take j).length * (24 * cW e) := flat_len fun q hq => by
          obtain ⟨e2, he2, h82, hr82⟩ := blk_ok rok (mem_zipIdx_fst (List.mem_of_mem_take hq))
          have ee2 : e = e2 := Nat.succ.inj he2
          subst ee2
          exact walkL_len h82 hr82 _
        have h3 : ((blocks r).zipIdx.take j).length ≤ 2 := by rw [List.length_take, List.length_zipIdx]; omega
        have h4 := Nat.mul_le_mul_right (24 * cW e) h3
        omega
      refine ⟨l, l2, zs4, zs2, rfl, rfl, hl7, hl2', bigE (by omega), ?_⟩
      have kt7 : KT (fun x => ok x ∧ x ≠ l) (fun x => ok x ∧ x ≠ l) G7 (upd G7 l (.lst (zs4 ++ zs2))) := KT.lst hl7 (fun x k => k.2) fun x k => k
      refine ⟨Same.upN (Same.trans sm4 s37) nl, ?_, fun b xs e => kt7.t _ _ (s37 _ _ (htup4 _ _ e)), ⟨_, _, rfl⟩, zs4 ++ zs2, upd_same, ?_, (kp4.trans (Keep.fr (Fr.same s37) fun _ k => k)).trans kt7.k⟩
      · rw [upd_ne lbl]
        exact s37 _ _ hbl4
      · have ez : (blocks r).zipIdx[j]? = some (b, j) := by rw [List.getElem?_zipIdx, hb']; simp
        rw [List.take_add_one, ez, List.flatMap_append, ← List.append_assoc]
        refine paired_cat (paired_imp hzs4 fun v q h => (h.to (KT.same s37)).to kt7) ?_
        rw [show ((some (b, j) : Option (List Row × Nat)).toList.flatMap (blkW (e + 1) p i)) = walkL e (p ++ [(i : Int), (j : Int)]) b by
          show List.flatMap (blkW (e + 1) p i) [(b, j)] = _
          rw [List.flatMap_cons, List.flatMap_nil, List.append_nil]
          rfl]
        exact paired_imp hzs2 fun v q h => by
          obtain ⟨T', pv', rv', e1', e2', e3', e4'⟩ := h
          exact (show WAt (fun x => ok x ∧ x ≠ l) kk G7 (e + 1) v q from ⟨T', pv', rv', e1', e2', e3', rowAt_mono _ _ _ e4'⟩).to kt7
    · rintro σ H3 ⟨sm4, hbl4, htup4, ⟨w5, w6, rfl⟩, zs4, hl4, hzs4, kp4⟩
      refine ⟨sm4, ⟨_, _, _, _, rfl⟩, zs4, hl4, ?_⟩
      have ly : ys.length = (blocks r).length := paired_len hys
      have ez : rs.zipIdx[i]? = some (r, i) := by rw [List.getElem?_zipIdx, hr']; simp
      rw [List.take_add_one, ez, List.flatMap_append]
      rw [show ((some (r, i) : Option (Row × Nat)).toList.flatMap (rowW d p)) = (p ++ [(i : Int)], r) :: (blocks r).zipIdx.flatMap (blkW d p i) by
        show List.flatMap (rowW d p) [(r, i)] = _
        rw [List.flatMap_cons, List.flatMap_nil, List.append_nil, rowW_eq rok]]
      have et : (blocks r).zipIdx.take ys.length = (blocks r).zipIdx := List.take_of_length_le (by rw [List.length_zipIdx]; omega)
      rw [et, List.append_assoc] at hzs4
      exact hzs4
  · rintro σ H1 ⟨sm, ⟨v3, v4, v5, v6, rfl⟩, zs, hl, hzs⟩
    have et : rs.zipIdx.take xs.length = rs.zipIdx := List.take_of_length_le (by rw [List.length_zipIdx, paired_len hxs]; omega)
    rw [et] at hzs
    exact ⟨_, rfl, q _ l zs sm nl hl (paired_imp hzs fun v q h => h.to ⟨Keep.mono fun x k _ => k.1, fun b xs e => e⟩)⟩
theorem walked_ok {f : Addr} {fd : FuncData} (F : Fun K "walked" "walked" sWalked f fd) (B : Bl mg) (m : mg "walked" = some (.ref f)) (b : Binds K fd ["rows", "path"] []) (gBlocksOf : Own P w K mg base 1 "blocks_of" ["row"] spBlocksOf) :
    ∀ d : Nat, Own P w K mg base (2 + d) "walked" ["rows", "path"] (spWalked d)
  | 0 => own_mk F m b (ok_Walked (k := 1) F B (by omega) gBlocksOf (own_mk F m b fn_false) (fun e h => absurd h (by omega)))
  | d + 1 => own_mk F m b (ok_Walked (k := 2 + d) F B (by omega) gBlocksOf (walked_ok F B m b gBlocksOf d) (fun e h => by
      have : d = e := by omega
      rw [this]))
end
end Ft
set_option Elab.async false
set_option linter.all false
set_option maxRecDepth 100000
set_option maxHeartbeats 4000000
namespace Ft
open PySem L2
def ind (n : Nat) : Str := repS "  " n
theorem ind_succ (n : Nat) : ind n ++ ("  " : Str) = ind (n + 1) := (repS_succ _ _).symm
theorem ind_one : ind 1 = ("  " : Str) := repS_one _
theorem ind_len (n : Nat) : (ind n).length = n * 2 := repS_len _ _
def strV : V → Str
  | .str z => z
  | .int i => toString i
  | _ => Str.empty
def flW (f : Str × Fl) : Option Str := match f.2 with
  | .at v => some (strV v)
  | .blk _ => none
def words (r : Row) : List Str := (flds r).filterMap flW
def headL (n : Nat) (r : Row) : Str := ind n ++ Txt.join " " (rowWord r :: words r)
def elseL (n j : Nat) : List Str := if j = 1 then [ind n ++ ("else" : Str)] else []
def linesR : Nat → Nat → Row → List Str
  | 0, n, r => [headL n r]
  | d + 1, n, r => headL n r :: (blocks r).zipIdx.flatMap fun q => elseL n q.2 ++ (if q.1.isEmpty = true then [ind (n + 1) ++ ("nothing" : Str)] else q.1.flatMap (linesR d (n + 1)))
def linesB (d n : Nat) (rs : List Row) : List Str := if rs.isEmpty = true then [ind n ++ ("nothing" : Str)] else rs.flatMap (linesR d n)
def blkL (d n : Nat) (q : List Row × Nat) : List Str := elseL n q.2 ++ linesB (d - 1) (n + 1) q.1
theorem linesR_eq {d n : Nat} {wi : Bool} {r : Row} (h : RowOk d wi r) : linesR d n r = headL n r :: (blocks r).zipIdx.flatMap (blkL d n) := by
  cases d with
  | zero =>
    cases r with
    | plain w fs => rfl
    | _ => exact h.elim
  | succ d => rfl
def szL (ls : List Str) : Nat := (ls.map (·.length)).sum + ls.length
theorem szL_nil : szL [] = 0 := rfl
theorem szL_cons (z : Str) (ls : List Str) : szL (z :: ls) = z.length + 1 + szL ls := by
  unfold szL
  rw [List.map_cons, List.sum_cons, List.length_cons]
  omega
theorem szL_app : ∀ (a b : List Str), szL (a ++ b) = szL a + szL b
  | [], b => by rw [List.nil_append, szL_nil]; omega
  | z :: a, b => by rw [List.cons_append, szL_cons, szL_cons, szL_app a b]; omega
theorem szL_flat {α : Type} {f : α → List Str} {c : Nat} : ∀ {l : List α}, (∀ x ∈ l, szL (f x) ≤ c) → szL (l.flatMap f) ≤ l.length * c
  | [], _ => by rw [List.flatMap_nil, szL_nil]; exact Nat.zero_le _
  | x :: l, h => by
    rw [List.flatMap_cons, szL_app, List.length_cons, Nat.succ_mul]
    have h1 := h x (by simp)
    have h2 := szL_flat (l := l) fun y hy => h y (by simp [hy])
    omega
theorem szL_len (ls : List Str) : ls.length ≤ szL ls := Nat.le_add_left _ _
/-- short texts of Python -/
def Shy (n : Nat) (z : Str) : Prop := z.length ≤ n ∧ PyData.strOk z = true
theorem strOk_app {a b : Str} (ha : PyData.strOk a = true) (hb : PyData.strOk b = true) : PyData.strOk (a ++ b) = true := by
  unfold PyData.strOk at *
  show (a.cps ++ b.cps).all _ = true
  rw [Array.all_append, ha, hb]; rfl
theorem Shy.app {m n : Nat} {a b : Str} (ha : Shy m a) (hb : Shy n b) : Shy (m + n) (a ++ b) := ⟨by rw [Str.length_append]; have := ha.1; have := hb.1; omega, strOk_app ha.2 hb.2⟩
theorem Shy.le {m n : Nat} {a : Str} (h : Shy m a) (l : m ≤ n) : Shy n a := ⟨Nat.le_trans h.1 l, h.2⟩
theorem ind_shy : ∀ n, Shy (n * 2) (ind n)
  | 0 => ⟨Nat.le_refl _, by decide +kernel⟩
  | n + 1 => by
    have h := (ind_shy n).app (b := ("  " : Str)) (n := 2) ⟨by decide +kernel, by decide +kernel⟩
    rw [ind_succ] at h
    exact h.le (by omega)
theorem join_shy {n : Nat} {sep : Str} (hs : Shy 1 sep) : ∀ {ls : List Str}, (∀ z ∈ ls, Shy n z) → Shy (ls.length * (n + 1)) (Txt.join sep ls) := by
  intro ls h
  rw [TL.join_eq]
  have go : ∀ {ls : List Str}, (∀ z ∈ ls, Shy n z) → Shy (ls.length * (n + 1)) (Str.join sep ls) := by
    intro ls h
    induction ls with
    | nil => exact ⟨Nat.zero_le _, (by decide +kernel : PyData.strOk Str.empty = true)⟩
    | cons x ls ih =>
      cases ls with
      | nil => exact (h x (by simp)).le (by simp)
      | cons y ls =>
        have h1 := ((h x (by simp)).app hs).app (ih fun z hz => h z (by simp [hz]))
        exact h1.le (by simp [Nat.succ_mul]; omega)
  exact go h
theorem num_shy {i : Int} (h : -999 ≤ i) (h2 : i ≤ 999) : Shy 4 (toString i : String) := by
  have all : ∀ n ∈ List.range 1999, (Str.ofString (toString ((n : Int) - 999))).length ≤ 4 ∧ PyData.strOk (Str.ofString (toString ((n : Int) - 999))) = true := by decide +kernel
  have e : ((i + 999).toNat : Int) - 999 = i := by omega
  have := all (i + 999).toNat (List.mem_range.mpr (by omega))
  rw [e] at this
  exact this
theorem isW_shy {z : Str} (h : isW z = true) : Shy 8 z := by
  refine ⟨?_, isW_strOk h⟩
  unfold isW at h
  rw [Bool.and_eq_true, Bool.and_eq_true] at h
  exact of_decide_eq_true h.2.1
theorem fl_shy {d : Nat} {wi : Bool} {name : Str} {v : V} (h : FlOk d wi name (.at v)) : Shy 8 (strV v) := by
  rcases h with ⟨_, h⟩ | ⟨_, i, rfl, h1, h2⟩
  · cases v with
    | str z => exact isW_shy h
    | _ => cases h
  · exact (num_shy h1 h2).le (by decide)
theorem words_shy {d : Nat} {wi : Bool} {r : Row} (h : RowOk d wi r) : (∀ z ∈ rowWord r :: words r, Shy 8 z) ∧ (rowWord r :: words r).length ≤ 4 := by
  have rf := rowF_of h
  refine ⟨fun z hz => ?_, ?_⟩
  · rcases List.mem_cons.mp hz with e | hz
    · subst e
      have nm := rf.names
      have all : ∀ p ∈ plainT, Shy 8 p.1 := by
        have : ∀ p ∈ plainT, p.1.length ≤ 8 ∧ PyData.strOk p.1 = true := by decide +kernel
        exact this
      cases r with
      | plain w fs =>
        have hp : plainOk wi w fs := by cases d <;> exact h
        obtain ⟨ks, hk, _⟩ := hp
        exact all _ hk
      | make n b => exact (show Shy 8 ("make" : Str) from ⟨by decide +kernel, by decide +kernel⟩)
      | when n b c => exact (show Shy 8 ("when" : Str) from ⟨by decide +kernel, by decide +kernel⟩)
      | try_ b c => exact (show Shy 8 ("try" : Str) from ⟨by decide +kernel, by decide +kernel⟩)
    · obtain ⟨f, hf, e⟩ := List.mem_filterMap.mp hz
      have fo := rf.ok f hf
      unfold flW at e
      cases hfl : f.2 with
      | blk b => rw [hfl] at e; cases e
      | «at» v =>
        rw [hfl] at e fo
        have e' := Option.some.inj e
        rw [← e']
        exact fl_shy fo
  · rw [List.length_cons]
    have h1 : (words r).length ≤ (flds r).length := List.length_filterMap_le _ _
    have := rf.few
    omega
theorem head_shy {d n : Nat} {wi : Bool} {r : Row} (h : RowOk d wi r) : Shy (n * 2 + 36) (headL n r) := by
  obtain ⟨h1, h2⟩ := words_shy h
  refine ((ind_shy n).app (join_shy (n := 8) ⟨by decide +kernel, by decide +kernel⟩ h1)).le ?_
  have := Nat.mul_le_mul_right (8 + 1) h2
  omega
def cT : Nat → Nat
  | 0 => 48
  | d + 1 => 80 + 16 * cT d
theorem cT_ge : ∀ d, 48 ≤ cT d
  | 0 => Nat.le_refl _
  | d + 1 => by have := cT_ge d; unfold cT; omega
theorem blocks_len2 (r : Row) : (blocks r).length ≤ 2 := by cases r <;> simp [blocks]
theorem else_shy {n : Nat} : Shy (n * 2 + 4) (ind n ++ ("else" : Str)) := (ind_shy n).app ⟨by decide +kernel, by decide +kernel⟩
theorem nothing_shy {n : Nat} : Shy (n * 2 + 7) (ind n ++ ("nothing" : Str)) := (ind_shy n).app ⟨by decide +kernel, by decide +kernel⟩
structure LinesOk (ls : List Str) (c : Nat) : Prop where
  sz : szL ls ≤ c
  ok : ∀ z ∈ ls, PyData.strOk z = true
theorem LinesOk.app {a b : List Str} {c e : Nat} (h : LinesOk a c) (k : LinesOk b e) : LinesOk (a ++ b) (c + e) := ⟨by rw [szL_app]; have := h.sz; have := k.sz; omega, fun z hz => (List.mem_append.mp hz).elim (h.ok z) (k.ok z)⟩
theorem LinesOk.le {a : List Str} {c e : Nat} (h : LinesOk a c) (l : c ≤ e) : LinesOk a e := ⟨Nat.le_trans h.sz l, h.ok⟩
theorem LinesOk.one {z : Str} {c : Nat} (h : Shy c z) : LinesOk [z] (c + 1) := ⟨by rw [szL_cons, szL_nil]; have := h.1; omega, fun y hy => by rw [List.mem_singleton.mp hy]; exact h.2⟩
theorem LinesOk.flat {α : Type} {f : α → List Str} {c : Nat} {l : List α} (h : ∀ x ∈ l, LinesOk (f x) c) : LinesOk (l.flatMap f) (l.length * c) :=
  ⟨szL_flat fun x hx => (h x hx).sz, fun z hz => by
    obtain ⟨x, hx, hz⟩ := List.mem_flatMap.mp hz
    exact (h x hx).ok z hz⟩
theorem elseL_ok {n j : Nat} (hn : n ≤ 4) : LinesOk (elseL n j) 13 := by
  unfold elseL
  split
  · exact (LinesOk.one else_shy).le (by omega)
  · exact ⟨by rw [szL_nil]; omega, fun z hz => by cases hz⟩
theorem linesB_genL {L d n : Nat} {wi : Bool} {rs : List Row} (h1 : 1 ≤ L) (hl : rs.length ≤ L) (hn : n ≤ 5) (h : ∀ r ∈ rs, LinesOk (linesR d n r) (cT d)) : LinesOk (linesB d n rs) (L * cT d) := by
  have := cT_ge d
  have := Nat.mul_le_mul h1 this
  unfold linesB
  split
  · exact (LinesOk.one nothing_shy).le (by omega)
  · exact (LinesOk.flat h).le (Nat.mul_le_mul_right _ hl)
theorem linesB_gen {d n : Nat} {wi : Bool} {rs : List Row} (hl : rs.length ≤ 8) (hn : n ≤ 5) (h : ∀ r ∈ rs, LinesOk (linesR d n r) (cT d)) : LinesOk (linesB d n rs) (8 * cT d) := linesB_genL (wi := wi) (by decide) hl hn h
theorem linesR_ok : ∀ {d n : Nat} {wi : Bool} {r : Row}, RowO8 d wi r → n + d ≤ 4 → LinesOk (linesR d n r) (cT d) := by
  intro d
  induction d with
  | zero =>
    intro n wi r h hn
    show LinesOk [headL n r] 48
    exact (LinesOk.one (head_shy h.ok)).le (by omega)
  | succ d ih =>
    intro n wi r h hn
    rw [linesR_eq h.ok]
    have hc := cT_ge d
    have hb : LinesOk ((blocks r).zipIdx.flatMap (blkL (d + 1) n)) ((blocks r).zipIdx.length * (13 + 8 * cT d)) := LinesOk.flat fun q hq => by
      obtain ⟨e, he, h8, hr⟩ := blk_ok8 h (mem_zipIdx_fst hq)
      have : d = e := Nat.succ.inj he
      subst this
      exact (elseL_ok (by omega)).app (linesB_gen (wi := false) h8 (by omega) fun r' hr' => ih (hr r' hr') (by omega))
    rw [List.length_zipIdx] at hb
    have h2 := Nat.mul_le_mul_right (13 + 8 * cT d) (blocks_len2 r)
    have := (LinesOk.one (head_shy (n := n) h.ok)).app (hb.le h2)
    refine this.le ?_
    show _ ≤ 80 + 16 * cT d
    omega
theorem linesB_ok {d n : Nat} {wi : Bool} {rs : List Row} (hl : rs.length ≤ 8) (h : ∀ r ∈ rs, RowO8 d wi r) (hn : n + d ≤ 4) : LinesOk (linesB d n rs) (8 * cT d) :=
  linesB_gen (wi := wi) hl (by omega) fun r hr => linesR_ok (h r hr) hn
theorem linesB_okL {L d n : Nat} {wi : Bool} {rs : List Row} (h1 : 1 ≤ L) (hl : rs.length ≤ L) (h : ∀ r ∈ rs, RowO8 d wi r) (hn : n + d ≤ 4) : LinesOk (linesB d n rs) (L * cT d) :=
  linesB_genL (wi := wi) h1 hl (by omega) fun r hr => linesR_ok (h r hr) hn
theorem cT_le24 {d : Nat} (h : d ≤ 3) : 24 * cT d ≤ 5242752 := by
  have h4 : d = 0 ∨ d = 1 ∨ d = 2 ∨ d = 3 := by omega
  rcases h4 with e | e | e | e <;> subst e <;> decide
end Ft
set_option Elab.async false
set_option linter.all false
set_option maxRecDepth 100000
set_option maxHeartbeats 4000000
namespace Ft
open PySem L2
theorem i999 {i : Int} (h : -999 ≤ i) (h2 : i ≤ 999) : i.natAbs.log2 < 1920 := by
  have : i.natAbs ≤ 999 := by omega
  have h3 : i.natAbs.log2 ≤ i.natAbs := Nat.log2_le_self _
  omega
/-- what stands in a field that is no block -/
theorem str_fl {d : Nat} {wi : Bool} {name : Str} {v : V} (h : FlOk d wi name (.at v)) : (∃ z, v = .str z) ∨ ∃ i, v = .int i ∧ i.natAbs.log2 < 1920 := by
  rcases h with ⟨_, h⟩ | ⟨_, i, rfl, h1, h2⟩
  · cases v with
    | str z => exact .inl ⟨z, rfl⟩
    | _ => cases h
  · exact .inr ⟨i, rfl, i999 h1 h2⟩
end Ft
set_option Elab.async false
set_option linter.all false
set_option maxRecDepth 100000
set_option maxHeartbeats 4000000
namespace Ft
open PySem L2
theorem dc_it {J : It} {n : Nat} {G : Hp → Prop} {Y : Nat → Hp → V → Hp → Prop} (w : Walk J n G Y) {g : TG} {tt : TT} {tk tv : TE} {vs : List Nat} {σ : L2.St} {H1 : Hp} {D : Addr} {Qd : Hp → Prop} (Pv : Nat → Hp → Prop) (h0 : Pv 0 (upd H1 D (.dK []))) (hG : ∀ i H, i ≤ n → Pv i H → G H)
    (hs : ∀ i x H H', i < n → Pv i H → Y i H x H' → g x (wipe σ vs) H' fun σ2 H2 => wipe σ2 vs = wipe σ vs ∧ tt σ2 H2 fun b H3 =>
      if b = true then tk σ2 H3 fun y H4 => tv σ2 H4 fun z H5 => ∃ kvs k, y = kV k ∧ H5 D = some (.dK kvs) ∧ kvs.length < sizeLine ∧ Pv (i + 1) (upd H5 D (.dK (putK kvs k z))) else Pv (i + 1) H3) (hd : ∀ H, Pv n H → Qd H) :
    ∃ W : Nat → Nat → Hp → Prop, (∃ m, W 0 m (upd H1 D (.dK []))) ∧ ∀ i m H, W i m H →
      (J.stop i H ∧ Qd H) ∨ (J.go i H ∧ ∃ Nx : Hp → Prop, (∀ H', Nx H' → ∃ m', m' < m ∧ W (i + 1) m' H') ∧ ∀ x H', J.yld i H x H' → g x (wipe σ vs) H' fun σ2 H2 => wipe σ2 vs = wipe σ vs ∧ tt σ2 H2 fun b H3 =>
        if b = true then tk σ2 H3 fun y H4 => tv σ2 H4 fun z H5 => ∃ kvs k, y = kV k ∧ H5 D = some (.dK kvs) ∧ kvs.length < sizeLine ∧ Nx (upd H5 D (.dK (putK kvs k z))) else Nx H3) := by
  refine ⟨fun i m H => m = n - i ∧ i ≤ n ∧ Pv i H, ⟨n, by simp, Nat.zero_le _, h0⟩, ?_⟩
  rintro i m H ⟨rfl, hi, p⟩
  have q := hG i H hi p
  by_cases hlt : i < n
  · refine .inr ⟨w.goes i H hlt q, Pv (i + 1), fun H' p' => ⟨n - (i + 1), by omega, rfl, hlt, p'⟩, fun x H' y => hs i x H H' hlt p (w.yields i H x H' hlt q y)⟩
  · have e : i = n := by omega
    subst e
    exact .inl ⟨w.stops H q, hd H p⟩
def isImp (r : Row) : Bool := decide (rowWord r = "load") || decide (rowWord r = "pick")
def spotsM (m : Str × List Row) : List (Str × List Int) := ((walkL 3 [] m.2).filter fun q => isImp q.2).map fun q => (m.1, q.1)
def spotsL (lib : Lib) : List (Str × List Int) := lib.flatMap spotsM
def SpotAt (H : Hp) (v : V) (q : Str × List Int) : Prop := ∃ T pv, v = .ref T ∧ H T = some (.tup [.str q.1, pv]) ∧ PathAt H pv q.2
theorem SpotAt.to {H H' : Hp} {v : V} {q : Str × List Int} (h : SpotAt H v q) (t : ∀ b xs, H b = some (.tup xs) → H' b = some (.tup xs)) : SpotAt H' v q := by
  obtain ⟨T, pv, e, hT, hp⟩ := h
  exact ⟨T, pv, e, t _ _ hT, hp.to t⟩
theorem lib_perm {ys ks : List Str} (h : ys.Perm ks) : ∀ lib : Lib, lib.map (·.1) = ks → ∃ rest : Lib, rest.map (·.1) = ys ∧ rest.Perm lib := by
  induction h with
  | nil => intro lib e; exact ⟨[], rfl, by rw [List.map_eq_nil_iff.mp e]⟩
  | cons x h ih =>
    intro lib e
    cases lib with
    | nil => cases e
    | cons m lib =>
      rw [List.map_cons] at e
      obtain ⟨rest, h1, h2⟩ := ih lib (List.cons.inj e).2
      exact ⟨m :: rest, by rw [List.map_cons, h1, (List.cons.inj e).1], h2.cons m⟩
  | swap x y l =>
    intro lib e
    cases lib with
    | nil => cases e
    | cons m lib =>
      cases lib with
      | nil => cases (List.cons.inj e).2
      | cons m2 lib =>
        rw [List.map_cons, List.map_cons] at e
        have e1 := (List.cons.inj e).1
        have e2 := (List.cons.inj (List.cons.inj e).2).1
        have e3 := (List.cons.inj (List.cons.inj e).2).2
        exact ⟨m2 :: m :: lib, by rw [List.map_cons, List.map_cons, e1, e2, e3], List.Perm.swap m m2 lib⟩
  | trans _ _ ih1 ih2 =>
    intro lib e
    obtain ⟨r2, h3, h4⟩ := ih2 lib e
    obtain ⟨r1, h5, h6⟩ := ih1 r2 h3
    exact ⟨r1, h5, h6.trans h4⟩
theorem libR_perm {lib lib' : Lib} (h : lib'.Perm lib) (l : LibR lib) : LibR lib' where
  few := by rw [h.length_eq]; exact l.few
  pos := by rw [h.length_eq]; exact l.pos
  nd := (h.map (·.1)).nodup_iff.mpr l.nd
  word := fun m hm => l.word m (h.mem_iff.mp hm)
  len := fun m hm => l.len m (h.mem_iff.mp hm)
  rows := fun m hm => l.rows m (h.mem_iff.mp hm)
theorem putL_newL {lib : Lib} {z : Str} {rs : List Row} (h : z ∉ lib.map (·.1)) : putL lib z rs = lib ++ [(z, rs)] := by
  unfold putL
  rw [if_neg]
  intro e
  obtain ⟨m, hm, q⟩ := List.any_eq_true.mp e
  exact h (List.mem_map.mpr ⟨m, hm, of_decide_eq_true q⟩)
theorem valV_at {kvs : List (Key × V)} {i : Nat} {k : Key} {v : V} (hn : (kvs.map (·.1)).Nodup) (h : kvs[i]? = some (k, v)) : valV kvs k = some v := by
  induction kvs generalizing i with
  | nil => simp at h
  | cons kv kvs ih =>
    rw [List.map_cons, List.nodup_cons] at hn
    cases i with
    | zero =>
      have e : kv = (k, v) := Option.some.inj h
      subst e
      unfold valV
      rw [List.find?_cons_of_pos (p := fun kv : Key × V => decide (kv.1 = k)) (by exact decide_eq_true rfl)]
      rfl
    | succ i =>
      have h' : kvs[i]? = some (k, v) := h
      have := ih hn.2 h'
      have ne : ¬ kv.1 = k := fun e => hn.1 (by rw [e]; exact List.mem_map.mpr ⟨_, List.mem_of_getElem? h', rfl⟩)
      unfold valV at this ⊢
      rw [List.find?_cons_of_neg (by rw [decide_eq_false ne]; exact Bool.false_ne_true)]
      exact this
theorem libAt_nd {ok : Addr → Prop} {kk : Bool → Bool → Prop} {H : Hp} {kvs : List (Key × V)} {lib : Lib} (h : LibAt ok kk H kvs lib) (hn : (lib.map (·.1)).Nodup) : (kvs.map (·.1)).Nodup := by
  rw [libAt_keys h]
  have go : ∀ l : List Str, l.Nodup → (l.map (Sum.inr : Str → Key)).Nodup := by
    intro l hl
    induction l with
    | nil => simp
    | cons x l ih =>
      rw [List.nodup_cons] at hl
      rw [List.map_cons, List.nodup_cons]
      refine ⟨fun hm => ?_, ih hl.2⟩
      obtain ⟨y, hy, e⟩ := List.mem_map.mp hm
      rw [Sum.inr.inj e] at hy
      exact hl.1 hy
  exact go _ hn
theorem putF_spots (r v : V) : putF "spots" v [(("rows_of" : Str), r)] = [(("rows_of" : Str), r), ("spots", v)] := by
  unfold putF
  rw [if_neg (by decide)]
  rfl
theorem lk_rows (r v : V) : List.lookup ("rows_of" : Str) [(("rows_of" : Str), r), ("spots", v)] = some r := by simp [List.lookup]
theorem lk_spots (r v : V) : List.lookup ("spots" : Str) [(("rows_of" : Str), r), ("spots", v)] = some v := by
  have : (("spots" : Str) == "rows_of") = false := by decide
  simp [List.lookup, this]
def loadPick : List V := [.str "load", .str "pick"]
theorem inV_imp (r : Row) : inV (.str (rowWord r)) loadPick = isImp r := by
  show (eqV (.str "load") (.str (rowWord r)) || (eqV (.str "pick") (.str (rowWord r)) || false)) = _
  rw [Bool.or_false]
  have h1 : ∀ a b : Str, eqV (.str a) (.str b) = decide (b = a) := fun a b => by
    show (a == b) = _
    by_cases e : b = a
    · rw [e]; simp
    · have e' : ¬ a = b := fun h => e h.symm
      simp [e, e']
  rw [h1, h1]
  rfl
theorem rowAt_head {ok : Addr → Prop} {kk : Bool → Bool → Prop} {H : Hp} {v : V} {r : Row} : ∀ {d : Nat}, RowAt ok kk H d v r → ∃ a kd rest, v = .ref a ∧ kk false kd ∧ H a = some (mkO kd (.str (rowWord r) :: rest)) := by
  intro d h
  have g : ∀ {xs : List V}, At ok (kk false) H v (.str (rowWord r) :: xs) → ∃ a kd rest, v = .ref a ∧ kk false kd ∧ H a = some (mkO kd (.str (rowWord r) :: rest)) := fun h => by
    obtain ⟨a, kd, e, _, k, m⟩ := h
    exact ⟨a, kd, _, e, k, m⟩
  cases d with
  | zero =>
    cases r with
    | plain w fs => exact g h
    | _ => exact h.elim
  | succ d =>
    cases r with
    | plain w fs => exact g h
    | make n b =>
      obtain ⟨vb, xs, h1, _⟩ := h
      exact g h1
    | when n b c =>
      obtain ⟨vb, xs, vc, ys, h1, _⟩ := h
      exact g h1
    | try_ b c =>
      obtain ⟨vb, xs, vc, ys, h1, _⟩ := h
      exact g h1
/-- what is known of the class Program -/
structure PCls (K : PySem.W.Frag) (mg : Str → Option Value) (C : Addr) : Prop where
  g : mg "Program" = some (.ref C)
  cl : Cls K C
  nR : NoAttr K C "rows_of"
  nS : NoAttr K C "spots"
section
variable {P : Program} {w : World} {K : PySem.W.Frag} {mg : Str → Option Value} {base : Heap}
abbrev sProgramInit : Stmt := inClass (topS 28) 0
theorem scProgramInit : FnScope ["self", "modules", "word", "rows", "path", "row"] ["self", "modules"] (defScope sProgramInit) := ⟨rfl, rfl, rfl, by decide +kernel, rfl, by decide +kernel, by decide +kernel⟩
/-- a Program at x: its rows, its places -/
structure ProgAt (ok : Addr → Prop) (H : Hp) (C x dx rd sl : Addr) (lib : Lib) : Prop where
  ins : H x = some (.ins C dx [("rows_of", .ref rd), ("spots", .ref sl)])
  rows : ∃ kvs, H rd = some (.dK kvs) ∧ LibAt ok tupK H kvs lib
  spots : ∃ zs, H sl = some (.lst zs) ∧ Paired (SpotAt H) zs (spotsL lib)
def spProgramInit (C : Addr) : Sp := fun vs H Q _ => ∃ (x dx dm : Addr) (kvs : List (Key × V)) (lib : Lib) (ok : Addr → Prop) (kk : Bool → Bool → Prop), vs = [.ref x, .ref dm] ∧ H x = some (.ins C dx []) ∧ H dm = some (.dK kvs) ∧ LibAt ok kk H kvs lib ∧ ¬ ok x ∧ LibR lib ∧
  ∀ H' rd sl lib2, Fr (· ≠ x) H H' → ProgAt (fun y => H y = none) H' C x dx rd sl lib2 → lib2.Perm lib → PyProof.Rows.sortedS (lib2.map (·.1)) = true → H rd = none → H sl = none → Q .non H'
theorem ok_ProgramInit {f C : Addr} {fd : FuncData} {k : Nat} (F : Fun K "__init__" "Program.__init__" sProgramInit f fd) (B : Bl mg) (PC : PCls K mg C) (hk : 9 ≤ k) (gCheckModules : Own P w K mg base 9 "check_modules" ["modules"] spCheckModules)
    (gFrozen : Own P w K mg base 4 "frozen" ["rows"] (spFrozen 3)) (gWalked : Own P w K mg base 5 "walked" ["rows", "path"] (spWalked 3)) : FnOk P w K mg base CX0 (k + 1) f fd ["self", "modules"] (spProgramInit C) := by
  refine F.ok scProgramInit (fun vs H Q E h => ?_) (fun cdv A outer s H vs Q E hr h => ?_)
  · obtain ⟨x, dx, dm, kvs, lib, ok, kk, rfl, _⟩ := h
    rfl
  obtain ⟨x, dx, dm, kvs, lib, ok, kk, rfl, hx, hdm, hlib, okx, lr, q⟩ := h
  refine ⟨_, (pss_cons (ps_expr (pe_own gCheckModules (hr.mono (by omega)) (by rfl) (pa_cons (pv 1) pa_nil)))
      (pss_cons (ps_fld (pv 0) (pe_dc (own := [("word", 2)]) (g := (gName 2)) (tt := tYes) (by rfl) scProgramInit.nd (pi_list (pe_callB (call_sortedD rfl) (by rfl) B.sorted (by decide +kernel) (pa_cons (pv 1) pa_nil))) (blkOk_by (own := [("word", 2)]) (N := ["self", "modules", "word", "rows", "path", "row"]) (sc := defScope sProgramInit) (by decide +kernel)) (fun _ _ _ _ _ => (pg_name (i := 2) scProgramInit.nd rfl (by first | exact Or.inl rfl | exact Or.inr rfl))) (fun _ _ _ _ _ => pts_nil) (fun _ _ _ _ _ => (pv 2)) (fun _ _ _ _ _ => (pe_own gFrozen (hr.mono (by omega)) (by rfl) (pa_cons (pe_dget (hu_of hr) (pv 1) (pv 2) (fun _ _ => rfl)) pa_nil)))) rfl)
      (pss_cons (ps_fld (pv 0) (pe_lst pa_nil) rfl)
      (pss_one (ps_lock (ps_for PassesOwn.never rfl (pi_keys (pe_fld (pv 0) rfl)) (pg_name (i := 2) scProgramInit.nd rfl (by first | exact Or.inl rfl | exact Or.inr rfl)) (pss_cons (ps_set (i := 3) scProgramInit.nd rfl (by first | exact Or.inl rfl | exact Or.inr rfl) (pe_own gWalked (hr.mono (by omega)) (by rfl) (pa_cons (pe_dget (hu_of hr) (pe_fld (pv 0) rfl) (pv 2) (fun _ _ => rfl)) (pa_cons (pe_tup pa_nil) pa_nil))))
      (pss_one (ps_expr (pe_bm PySem.F.plainAttrs_list PySem.F.slot_list_extend PySem.F.type_list_extend mt_extend (pe_fld (pv 0) rfl) (pa_cons (pe_lc (own := [("path", 4), ("row", 5)]) (g := (gTup _ 2 (gCons (gName 4) (gCons (gName 5) gNil)))) (by rfl) scProgramInit.nd (pi_list (pv 3)) (blkOk_by (own := [("path", 4), ("row", 5)]) (N := ["self", "modules", "word", "rows", "path", "row"]) (sc := defScope sProgramInit) (by decide +kernel)) (fun _ _ _ _ _ => (pg_tup (by rfl) (pgs_cons (pg_name (i := 4) scProgramInit.nd rfl (by first | exact Or.inl rfl | exact Or.inr rfl)) (pgs_cons (pg_name (i := 5) scProgramInit.nd rfl (by first | exact Or.inl rfl | exact Or.inr rfl)) pgs_nil)))) (fun _ _ _ _ _ => (pts_one (pt_cmpR (opK (K := K) (fun K => rIn K false) op_in_seq rfl) (pe_ix (ixK (K := K) rIxT ix_tup rfl) (pv 5) pe_int (fun _ _ => rfl)) (pe_tup (pa_cons pe_str (pa_cons pe_str pa_nil))) (by rfl)))) (fun _ _ _ _ _ => (pe_tup (pa_cons (pv 2) (pa_cons (pv 4) pa_nil))))) pa_nil))))))))))), ?_⟩
  have few := lr.few
  have hkeys := libAt_keys hlib
  refine ⟨_, rfl, dm, kvs, lib, ok, kk, rfl, hdm, hlib, lr, fun H1 s1 => ?_⟩
  have hdm1 : H1 dm = some (.dK kvs) := s1 _ _ hdm
  refine ⟨_, rfl, dm, kvs, lib.map (·.1), rfl, .inl hdm1, hkeys, by rw [List.length_map]; omega, fun ys l0 hperm hsort nl0 => ?_⟩
  have s2 : Same H (upd H1 l0 (.lst (ys.map V.str))) := Same.trans s1 (Same.new nl0)
  have hl0 : (upd H1 l0 (.lst (ys.map V.str))) l0 = some (.lst (ys.map V.str)) := upd_same
  generalize hG : upd H1 l0 _ = G at *
  obtain ⟨lib2, e2, p2⟩ := lib_perm hperm lib rfl
  have lr2 := libR_perm p2 lr
  have lylen : ys.length = lib2.length := by rw [← e2, List.length_map]
  refine ⟨l0, rfl, ⟨_, SqL.of hl0⟩, fun D nD => ?_⟩
  have nDH : H D = none := Same.free s2 nD
  have Dx : D ≠ x := fun e => by rw [e, hx] at nDH; cases nDH
  refine dc_it (walk_list (xs := ys.map V.str)) (fun i H' => Same G H' ∧ ∃ kvs', H' D = some (.dK kvs') ∧ LibAt (fun y => H y = none ∧ y ≠ D) tupK H' kvs' (lib2.take i))
    ⟨Same.new nD, [], upd_same, .nil⟩ (fun i H' _ ⟨sm, _⟩ => SqL.of (sm _ _ hl0)) ?_ ?_
  · rintro i x' H2 H3 hi ⟨s3, kvs', hD, hl⟩ ⟨rfl, hx'⟩
    obtain ⟨⟨z, rs⟩, hm, rfl⟩ : ∃ m : Str × List Row, lib2[i]? = some m ∧ x' = .str m.1 := by
      rw [← e2, List.getElem?_map, List.getElem?_map] at hx'
      cases e : lib2[i]? with
      | none => rw [e] at hx'; cases hx'
      | some m => rw [e] at hx'; exact ⟨m, rfl, (Option.some.inj hx').symm⟩
    have s4 : Same H H3 := Same.trans s2 s3
    have hd3 : H3 dm = some (.dK kvs) := s4 _ _ hdm
    have mem : (z, rs) ∈ lib := p2.mem_iff.mp (List.mem_of_getElem? hm)
    obtain ⟨v, hv, hrows⟩ := libAt_val (hlib.to (Keep.fr (Fr.same s4) fun _ k => k)) lr.nd mem
    have dg : DGet H3 dm (.str z) (some v) := by rw [← hv]; exact DGet.k (k := Sum.inr z) hd3
    refine ⟨rfl, ?_⟩
    refine ⟨_, rfl, _, rfl, _, rfl, dm, v, rfl, dg, v, ok, kk, false, rs, rfl, hrows, lr.len _ mem, lr.rows _ mem, fun H5 v' s5 hv' => ?_⟩
    have hD5 : H5 D = some (.dK kvs') := s5 _ _ hD
    have lk : kvs'.length ≤ 8 := by rw [libAt_len hl, List.length_take]; have := lr2.few; omega
    refine ⟨kvs', Sum.inr z, rfl, hD5, big (by omega), Same.upN (Same.trans s3 s5) nD, _, upd_same, ?_⟩
    have nz : z ∉ (lib2.take i).map (·.1) := fun h => by
      have nd := lr2.nd
      obtain ⟨m', hm', e'⟩ := List.mem_map.mp h
      obtain ⟨j, hj, ej⟩ := List.mem_iff_getElem.mp hm'
      rw [List.length_take] at hj
      rw [List.getElem_take] at ej
      have h1 : (lib2.map (·.1))[j]? = some z := by rw [List.getElem?_map, List.getElem?_eq_getElem (by omega), ej]; exact congrArg some e'
      have h2 : (lib2.map (·.1))[i]? = some z := by rw [List.getElem?_map, hm]; rfl
      have := nd_ix nd h1 h2
      omega
    have et : lib2.take (i + 1) = lib2.take i ++ [(z, rs)] := by rw [List.take_add_one, hm]; rfl
    rw [et, ← putL_newL nz]
    refine libAt_put (hl.to fun y kd ws k e => ⟨k, by rw [upd_ne k.2]; exact s5 _ _ e⟩) (hv'.to fun y kd ws k e => ?_)
    have yD : y ≠ D := fun e => by rw [e, hD] at k; cases k
    exact ⟨⟨Same.free s4 k, yD⟩, by rw [upd_ne yD]; exact e⟩
  · rintro H2 ⟨s3, kvs2, hD, hl⟩
    rw [List.length_map, lylen, List.take_length] at hl
    have s4 : Same H H2 := Same.trans s2 s3
    have hx2 : H2 x = some (.ins C dx []) := s4 _ _ hx
    -- self.rows_of = ..
    refine ⟨_, rfl, x, C, dx, [], rfl, hx2, PC.cl, PC.nR, by show 0 < 1000; decide, ?_⟩
    have hx3 : (upd H2 x (.ins C dx (putF "rows_of" (.ref D) []))) x = some (.ins C dx [("rows_of", .ref D)]) := upd_same
    have fr3 : Fr (· ≠ x) H (upd H2 x (.ins C dx (putF "rows_of" (.ref D) []))) := fun b o k e => by rw [upd_ne k]; exact s4 _ _ e
    have hD3 : (upd H2 x (.ins C dx (putF "rows_of" (.ref D) []))) D = some (.dK kvs2) := by rw [upd_ne Dx]; exact hD
    have hl3 : LibAt (fun y => H y = none ∧ y ≠ D) tupK (upd H2 x (.ins C dx (putF "rows_of" (.ref D) []))) kvs2 lib2 := hl.to fun y kd ws k e => ⟨k, by
      rw [upd_ne (fun z => by rw [z, hx] at k; cases k.1)]; exact e⟩
    generalize hG3 : upd H2 x _ = G3 at *
    -- self.spots = []
    refine ⟨Nat.zero_le _, fun sl nsl => ⟨_, rfl, x, C, dx, _, rfl, by rw [upd_ne (fun e => by rw [← e, hx3] at nsl; cases nsl)]; exact hx3, PC.cl, PC.nS, by show 1 < 1000; decide, ?_⟩⟩
    have slx : sl ≠ x := fun e => by rw [e, hx3] at nsl; cases nsl
    have nslH : H sl = none := fr3.free slx nsl
    have slD : sl ≠ D := fun e => by rw [e, hD3] at nsl; cases nsl
    rw [putF_spots]
    have fr4 : Fr (· ≠ x) H (upd (upd G3 sl (.lst [])) x (.ins C dx [("rows_of", .ref D), ("spots", .ref sl)])) := fun b o k e => by
      rw [upd_ne k, upd_ne (ne_of_none (fr3 _ _ k e) nsl)]; exact fr3 _ _ k e
    have hx4 : (upd (upd G3 sl (.lst [])) x (.ins C dx [("rows_of", .ref D), ("spots", .ref sl)])) x = some (.ins C dx [("rows_of", .ref D), ("spots", .ref sl)]) := upd_same
    have hsl4 : (upd (upd G3 sl (.lst [])) x (.ins C dx [("rows_of", .ref D), ("spots", .ref sl)])) sl = some (.lst []) := by rw [upd_ne slx]; exact upd_same
    have hD4 : (upd (upd G3 sl (.lst [])) x (.ins C dx [("rows_of", .ref D), ("spots", .ref sl)])) D = some (.dK kvs2) := by rw [upd_ne Dx, upd_ne slD.symm]; exact hD3
    have hl4 : LibAt (fun y => H y = none ∧ y ≠ D ∧ y ≠ sl) tupK (upd (upd G3 sl (.lst [])) x (.ins C dx [("rows_of", .ref D), ("spots", .ref sl)])) kvs2 lib2 := hl3.to fun y kd ws k e => by
      have yx : y ≠ x := fun z => by rw [z, hx] at k; cases k.1
      have ys : y ≠ sl := ne_of_none e nsl
      exact ⟨⟨k.1, k.2, ys⟩, by rw [upd_ne yx, upd_ne ys]; exact e⟩
    generalize hG4 : upd (upd G3 sl _) x _ = G4 at *
    -- the loop, its dict locked
    refine ⟨D, .dK kvs2, hD4, trivial, fun od => ?_⟩
    have hx5 : (upd G4 D (.frz od (.dK kvs2))) x = some (.ins C dx [("rows_of", .ref D), ("spots", .ref sl)]) := by rw [upd_ne Dx.symm]; exact hx4
    have hsl5 : (upd G4 D (.frz od (.dK kvs2))) sl = some (.lst []) := by rw [upd_ne slD]; exact hsl4
    have hD5 : (upd G4 D (.frz od (.dK kvs2))) D = some (.frz od (.dK kvs2)) := upd_same
    have fr5 : Fr (· ≠ x) H (upd G4 D (.frz od (.dK kvs2))) := fr4.upN nDH
    have hl5 : LibAt (fun y => H y = none ∧ y ≠ D ∧ y ≠ sl) tupK (upd G4 D (.frz od (.dK kvs2))) kvs2 lib2 := hl4.to fun y kd ws k e => ⟨k, by rw [upd_ne k.2.1]; exact e⟩
    generalize hG5 : upd G4 D _ = G5 at *
    refine ⟨_, rfl, x, C, dx, _, _, rfl, hx5, PC.cl, PC.nR, lk_rows _ _, D, od, rfl, .inl ⟨kvs2, hD5, ?_⟩⟩
    have lkv : kvs2.length = lib2.length := libAt_len hl5
    refine for_it walk_keys (fun i σ H' => Fr (· ≠ x) H H' ∧ H' x = some (.ins C dx [("rows_of", .ref D), ("spots", .ref sl)]) ∧ H' D = some (.frz od (.dK kvs2)) ∧ LibAt (fun y => H y = none ∧ y ≠ D ∧ y ≠ sl) tupK H' kvs2 lib2 ∧
        (∃ v2 v3 v4 v5, σ = [some (.ref x), some (.ref dm), v2, v3, v4, v5]) ∧ ∃ zs, H' sl = some (.lst zs) ∧ Paired (SpotAt H') zs ((lib2.take i).flatMap spotsM))
      ⟨fr5, hx5, hD5, hl5, ⟨_, _, _, _, rfl⟩, [], hsl5, .nil⟩ (fun i σ H' _ ⟨_, _, h, _⟩ => h) ?_ ?_
    · rintro i xx σ H6 H7 hi ⟨fr6, hx6, hD6, hl6, ⟨v2, v3, v4, v5, rfl⟩, zs, hs6, hz6⟩ ⟨rfl, kx, vx, hkv, rfl⟩
      obtain ⟨⟨z, rs⟩, hm, hkz, hrows⟩ := paired_get hl6 hkv
      have hkz' : kx = Sum.inr z := hkz
      subst hkz'
      have mem2 := List.mem_of_getElem? hm
      have dg : DGet H7 D (.str z) (some vx) := .inl ⟨kvs2, Sum.inr z, .inr ⟨od, hD6⟩, rfl, (valV_at (libAt_nd hl6 lr2.nd) hkv).symm⟩
      -- rows = walked(self.rows_of[word], ())
      refine ⟨_, rfl, x, C, dx, _, _, rfl, hx6, PC.cl, PC.nR, lk_rows _ _, _, rfl, D, vx, rfl, dg, Nat.zero_le _, fun t0 nt0 => ?_⟩
      have s7 : Same H7 (upd H7 t0 (.tup [])) := Same.new nt0
      refine ⟨vx, .ref t0, (fun y => H y = none ∧ y ≠ D ∧ y ≠ sl), tupK, false, rs, [], rfl, hrows.to (Keep.fr (Fr.same s7) fun _ k => k), lr2.len _ mem2, lr2.rows _ mem2, by omega, ⟨t0, rfl, upd_same⟩, by simp, fun H8 wl ws s8 nwl hwl hws => ?_⟩
      have s78 : Same H7 H8 := Same.trans s7 s8
      have hx8 := s78 _ _ hx6
      have hsl8 := s78 _ _ hs6
      -- self.spots.extend([..])
      refine ⟨_, rfl, x, C, dx, _, _, rfl, hx8, PC.cl, PC.nS, lk_spots _ _, .inl ⟨rfl, _, SqL.of hsl8⟩, ?_⟩
      refine ⟨_, rfl, wl, rfl, ⟨_, SqL.of hwl⟩, fun L nL => ?_⟩
      have lwl : (walkL 3 [] rs).length ≤ 2710680 := by
        have : (walkL 3 [] rs).length ≤ 24 * cW 3 := walkL_len (lr2.len _ mem2) (lr2.rows _ mem2) []
        have c3 : cW 3 = 112945 := by decide
        omega
      have lws : ws.length = (walkL 3 [] rs).length := paired_len hws
      refine lc_it walk_list (fun j H' => Same H8 H' ∧ ∃ us, H' L = some (.lst us) ∧ Paired (SpotAt H') us ((((walkL 3 [] rs).take j).filter fun q => isImp q.2).map fun q => (z, q.1)))
        ⟨Same.new nL, [], upd_same, .nil⟩ (fun j H' _ ⟨sm, _⟩ => SqL.of (sm _ _ hwl)) ?_ ?_
      · rintro j y H9 H10 hj ⟨s9, us, hL, hus⟩ ⟨rfl, hy⟩
        obtain ⟨⟨pp, r⟩, hq, T, pv, rv, rfl, hT, hpv, hrv⟩ := paired_get hws hy
        have hT10 := s9 _ _ hT
        have hpv10 := hpv.to fun b xs e => s9 _ _ e
        have et : (walkL 3 [] rs).take (j + 1) = (walkL 3 [] rs).take j ++ [(pp, r)] := by rw [List.take_add_one, hq]; rfl
        have lus : us.length ≤ 2710680 := by
          rw [paired_len hus, List.length_map]
          exact Nat.le_trans (List.length_filter_le _ _) (by rw [List.length_take]; omega)
        refine ⟨T, _, rfl, SqT.of hT10, rfl, _, _, rfl, _, _, rfl, rfl, rfl, ?_⟩
        -- row[0]
        have hr0 : ∃ ra rest, rv = .ref ra ∧ H10 ra = some (.tup (.str (rowWord r) :: rest)) := by
          obtain ⟨ra, kd, rest, e, hkd, h⟩ := rowAt_head hrv
          have hkd' : kd = false := hkd
          subst hkd'
          exact ⟨ra, rest, e, s9 _ _ h⟩
        obtain ⟨ra, rest, rfl, hra⟩ := hr0
        refine ⟨_, rfl, ra, _, 0, _, rfl, rfl, SqT.of hra, atI_nat (j := 0) rfl, (by show 2 ≤ sizeLine; decide), fun t1 nt1 => ?_⟩
        refine ⟨t1, loadPick, rfl, .inr (SqT.of upd_same), rfl, rfl, _, rfl, ?_⟩
        show if inV (.str (rowWord r)) loadPick = true then _ else _
        rw [inV_imp]
        have hus1 := paired_imp hus fun v q h => SpotAt.to h fun b xs e => Same.new (p := t1) (o := .tup loadPick) nt1 _ _ e
        cases himp : isImp r with
        | false =>
          refine iteF ⟨Same.trans s9 (Same.new nt1), us, Same.new nt1 _ _ hL, ?_⟩
          rw [et, List.filter_append, List.map_append]
          have e0 : List.filter (fun q : List Int × Row => isImp q.2) [(pp, r)] = [] := by
            rw [List.filter_cons_of_neg (by rw [himp]; exact Bool.false_ne_true)]; rfl
          rw [e0, List.map_nil, List.append_nil]
          exact hus1
        | true =>
          refine iteT ⟨_, rfl, _, rfl, (by show 2 ≤ sizeLine; decide), fun t2 nt2 => ?_⟩
          have hL2 : (upd (upd H10 t1 (.tup loadPick)) t2 (.tup [.str z, pv])) L = some (.lst us) := Same.new (o := .tup [.str z, pv]) nt2 _ _ (Same.new (o := .tup loadPick) nt1 _ _ hL)
          refine ⟨us, hL2, big (by omega), Same.upN (Same.trans s9 (Same.trans (Same.new nt1) (Same.new nt2))) nL, us ++ [.ref t2], upd_same, ?_⟩
          rw [et, List.filter_append, List.map_append]
          have e0 : List.filter (fun q : List Int × Row => isImp q.2) [(pp, r)] = [(pp, r)] := by
            rw [List.filter_cons_of_pos (p := fun q : List Int × Row => isImp q.2) (a := (pp, r)) himp]; rfl
          rw [e0]
          have tL : ∀ b xs, (upd (upd H10 t1 (.tup loadPick)) t2 (.tup [.str z, pv])) b = some (.tup xs) → (upd (upd (upd H10 t1 (.tup loadPick)) t2 (.tup [.str z, pv])) L (.lst (us ++ [.ref t2]))) b = some (.tup xs) := fun b xs e => by
            rw [upd_ne (fun q => by rw [q, hL2] at e; cases e)]; exact e
          refine paired_app ?_ (paired_imp hus1 fun v q h => h.to fun b xs e => tL _ _ (Same.new nt2 _ _ e))
          exact SpotAt.to (H := upd (upd H10 t1 (.tup loadPick)) t2 (.tup [.str z, pv])) ⟨t2, pv, rfl, upd_same, hpv10.to fun b xs e => Same.new nt2 _ _ (Same.new nt1 _ _ e)⟩ tL
      · rintro H9 ⟨s9, us, hL, hus⟩
        rw [lws, List.take_length] at hus
        have hsl9 := s9 _ _ hsl8
        have s79 : Same H7 H9 := Same.trans s78 s9
        have lus : us.length ≤ 2710680 := by
          rw [paired_len hus, List.length_map]
          exact Nat.le_trans (List.length_filter_le _ _) lwl
        have lzs : zs.length ≤ 4 * 2710680 := by
          rw [paired_len hz6]
          have h1 : ((lib2.take i).flatMap spotsM).length ≤ (lib2.take i).length * 2710680 := flat_len fun m hm' => by
            have hm2 := List.mem_of_mem_take hm'
            unfold spotsM
            rw [List.length_map]
            refine Nat.le_trans (List.length_filter_le _ _) ?_
            have := walkL_len (lr2.len _ hm2) (lr2.rows _ hm2) []
            have c3 : cW 3 = 112945 := by decide
            omega
          have h2 : (lib2.take i).length ≤ 4 := by rw [List.length_take]; have := lr2.few; omega
          exact Nat.le_trans h1 (Nat.mul_le_mul_right 2710680 h2)
        refine ⟨sl, L, zs, us, rfl, rfl, hsl9, hL, Nat.le_of_lt (Nat.lt_of_le_of_lt (show zs.length + us.length ≤ 15000000 by omega) (by decide)), ?_⟩
        have tS : ∀ b xs, H9 b = some (.tup xs) → (upd H9 sl (.lst (zs ++ us))) b = some (.tup xs) := fun b xs e => by
          rw [upd_ne (fun q => by rw [q, hsl9] at e; cases e)]; exact e
        have et : lib2.take (i + 1) = lib2.take i ++ [(z, rs)] := by rw [List.take_add_one, hm]; rfl
        refine ⟨(fr6.trans (Fr.same s79)).upN nslH, by rw [upd_ne slx.symm]; exact s79 _ _ hx6, by rw [upd_ne slD.symm]; exact s79 _ _ hD6, hl6.to fun y kd ws k e => ⟨k, by rw [upd_ne k.2.2]; exact s79 _ _ e⟩, ⟨_, _, _, _, rfl⟩, zs ++ us, upd_same, ?_⟩
        rw [et, List.flatMap_append]
        refine paired_cat (paired_imp hz6 fun v q h => h.to fun b xs e => tS _ _ (s79 _ _ e)) ?_
        rw [List.flatMap_cons, List.flatMap_nil, List.append_nil]
        exact paired_imp hus fun v q h => h.to tS
    · rintro σ H6 ⟨fr6, hx6, hD6, hl6, ⟨v2, v3, v4, v5, rfl⟩, zs, hs6, hz6⟩
      rw [lkv, List.take_length] at hz6
      refine ⟨hD6, ?_⟩
      have slD' : sl ≠ D := slD
      refine q _ D sl lib2 (fr6.upN nDH) ⟨by rw [upd_ne Dx.symm]; exact hx6, ⟨kvs2, upd_same, hl6.to fun y kd ws k e => ⟨k.1, by rw [upd_ne k.2.1]; exact e⟩⟩, ⟨zs, by rw [upd_ne slD']; exact hs6, paired_imp hz6 fun v q h => h.to fun b xs e => by
        rw [upd_ne (fun z => by rw [z, hD6] at e; cases e)]; exact e⟩⟩ p2 (by rw [e2]; exact hsort) nDH nslH
end
end Ft
set_option Elab.async false
set_option linter.all false
set_option maxRecDepth 100000
set_option maxHeartbeats 4000000
namespace Ft
open PySem L2 PySem.W
/-- two arrangements in order of one list, one of them strictly, are the same -/
theorem sorted_eq {α : Type} {lt : α → α → Prop} : ∀ {l m : List α}, l.Perm m → l.Pairwise (fun a b => ¬ lt b a) → m.Pairwise lt → l = m
  | [], m, h, _, _ => (List.Perm.nil_eq h)
  | y :: l, [], h, _, _ => by cases h.length_eq
  | y :: l, x :: m, h, hl, hm => by
    rw [List.pairwise_cons] at hl hm
    have e : y = x := by
      have hy : y ∈ x :: m := h.mem_iff.mp (by simp)
      have hx : x ∈ y :: l := h.mem_iff.mpr (by simp)
      rcases List.mem_cons.mp hy with e | hy
      · exact e
      · rcases List.mem_cons.mp hx with e | hx
        · exact e.symm
        · exact absurd (hm.1 y hy) (hl.1 x hx)
    subst e
    rw [sorted_eq ((List.perm_cons y).mp h) hl.2 hm.2]
end Ft
set_option Elab.async false
set_option linter.all false
set_option maxRecDepth 100000
set_option maxHeartbeats 4000000
namespace Ft
open PySem PySem.Spec L2 PySem.W PyProof.Rows
abbrev Tk := Int ⊕ List Nat
def pTok (p : List Int) : List Tk := keyToksAll (p.map PyData.int)
def PLt (p q : List Int) : Prop := lexLt itemOrd (pTok p ++ [.inl 0]) (pTok q ++ [.inl 0]) = true
theorem pTok_nil : pTok [] = [.inl 0] := by unfold pTok; rw [List.map_nil, keyToksAll]
theorem pTok_cons (k : Int) (t : List Int) : pTok (k :: t) = .inl 1 :: .inl k :: pTok t := by
  unfold pTok
  rw [List.map_cons, keyToksAll, keyToks]
  rfl
theorem PLt.head {k l : Int} (h : k < l) (t u : List Int) : PLt (k :: t) (l :: u) := by
  unfold PLt
  rw [pTok_cons, pTok_cons]
  show lexLt itemOrd (.inl 1 :: .inl k :: (pTok t ++ [.inl 0])) (.inl 1 :: .inl l :: (pTok u ++ [.inl 0])) = true
  rw [lex_self (O := itemOrd), lex_diff (O := itemOrd) (fun e => by have := Sum.inl.inj e; omega)]
  exact decide_eq_true h
theorem PLt.nil (k : Int) (t : List Int) : PLt [] (k :: t) := by
  unfold PLt
  rw [pTok_cons, pTok_nil]
  show lexLt itemOrd (.inl 0 :: [.inl 0]) (.inl 1 :: .inl k :: (pTok t ++ [.inl 0])) = true
  rw [lex_diff (O := itemOrd) (fun e => by have := Sum.inl.inj e; omega)]
  exact decide_eq_true (by decide : (0 : Int) < 1)
/-- a place as data -/
def spotD (q : Str × List Int) : PyData := .tuple [.str q.1, .tuple (q.2.map PyData.int)]
def SLt (a b : Str × List Int) : Prop := dataLt (spotD a) (spotD b) = true
theorem spot_toks (q : Str × List Int) : keyToks (spotD q) = .inl 1 :: .inr q.1.cps.toList :: .inl 1 :: (pTok q.2 ++ [.inl 0]) := by
  unfold spotD pTok
  rw [keyToks, keyToksAll, keyToks, keyToksAll, keyToks, keyToksAll]
  rfl
theorem SLt.word {z y : Str} (h : z.cps.toList < y.cps.toList) (p q : List Int) : SLt (z, p) (y, q) := by
  unfold SLt dataLt
  rw [spot_toks, spot_toks, lex_self (O := itemOrd), lex_diff (O := itemOrd) (fun e => by
    have e' : z.cps.toList = y.cps.toList := Sum.inr.inj e
    rw [e'] at h
    exact List.lt_irrefl _ h)]
  exact decide_eq_true h
theorem sortedS_strict {zs : List Str} (h : sortedS zs = true) (nd : zs.Nodup) : zs.Pairwise (fun a b => a.cps.toList < b.cps.toList) := by
  have lt_of : ∀ {a b : Str}, ltCps b.cps.toList a.cps.toList = false → a ≠ b → a.cps.toList < b.cps.toList := fun {a b} h ne => by
    rw [ltCps_eq] at h
    have h1 : ¬ b.cps.toList < a.cps.toList := of_decide_eq_false h
    cases e : decide (a.cps.toList < b.cps.toList) with
    | true => exact of_decide_eq_true e
    | false => exact absurd (str_of_cps (strKind.total _ _ e (decide_eq_false h1))) ne
  have go : ∀ (zs : List Str) (p : Str), risingS p zs = true → (p :: zs).Nodup → (p :: zs).Pairwise (fun a b => a.cps.toList < b.cps.toList) := by
    intro zs
    induction zs with
    | nil => intro p _ _; exact List.pairwise_singleton _ _
    | cons x r ih =>
      intro p h nd
      unfold risingS at h
      rw [Bool.and_eq_true] at h
      rw [List.nodup_cons] at nd
      have px : p.cps.toList < x.cps.toList := lt_of (by simpa using h.1) (fun e => nd.1 (by rw [e]; simp))
      have hr := ih x h.2 nd.2
      rw [List.pairwise_cons] at hr ⊢
      refine ⟨fun y hy => ?_, List.pairwise_cons.mpr hr⟩
      rcases List.mem_cons.mp hy with e | hy
      · rw [e]; exact px
      · exact List.lt_trans px (hr.1 y hy)
  cases zs with
  | nil => exact .nil
  | cons x r => exact go r x h nd
end Ft
set_option Elab.async false
set_option linter.all false
set_option maxRecDepth 100000
set_option maxHeartbeats 4000000
namespace Ft
open PySem L2
structure OwnM (P : PySem.Program) (w : World) (K : PySem.W.Frag) (mg : Str → Option Value) (base : Heap) (k : Nat) (C : Addr) (m : Str) (ps : List Str) (sp : Sp) (f : Addr) (fd : FuncData) : Prop where
  c : Cls K C
  m : Meth K C m f
  F : FnOk P w K mg base CX0 k f fd ps sp
  b : Binds K fd ps []
structure OwnC (P : PySem.Program) (w : World) (K : PySem.W.Frag) (mg : Str → Option Value) (base : Heap) (k : Nat) (x : Str) (C : Addr) (ps : List Str) (sp : Sp) : Prop where
  ex : ∃ (f : Addr) (fd : FuncData), Mk K C f ∧ FnOk P w K mg base CX0 k f fd ps sp ∧ mg x = some (.ref C) ∧ Binds K fd ps []
end Ft
set_option Elab.async false
set_option linter.all false
set_option maxRecDepth 100000
set_option maxHeartbeats 4000000
namespace Ft
open PySem L2
/-- blocks of at most eight rows -/
def Lib8 (lib : Lib) : Prop := ∀ m ∈ lib, ∀ r ∈ m.2, RowO8 3 false r
theorem Lib8.perm {a b : Lib} (p : a.Perm b) (h : Lib8 b) : Lib8 a := fun m hm => h m (p.mem_iff.mp hm)
def modL (m : Str × List Row) : List Str := (("module " : Str) ++ m.1) :: linesB 3 1 m.2
def textL (lib : Lib) : Str := Txt.join Str.empty ((lib.flatMap modL).map fun z => z ++ ("\n" : Str))
theorem modL_ok {m : Str × List Row} (hw : isW m.1 = true) (hl : m.2.length ≤ 24) (hr : ∀ r ∈ m.2, RowO8 3 false r) : LinesOk (modL m) (218448 * m.2.length + 80) := by
  have h1 : Shy (7 + 8) (("module " : Str) ++ m.1) := Shy.app ⟨by decide +kernel, by decide +kernel⟩ (isW_shy hw)
  by_cases c : m.2.length = 0
  · have h2 := linesB_okL (L := 1) (n := 1) (by decide) (by omega) hr (by omega)
    have e : m.2 = [] := List.length_eq_zero_iff.mp c
    have h3 : LinesOk (linesB 3 1 m.2) 48 := by
      rw [e]
      exact (LinesOk.one nothing_shy).le (by omega)
    exact ((LinesOk.one h1).app h3).le (by omega)
  · have h2 := linesB_okL (L := m.2.length) (n := 1) (by omega) (Nat.le_refl _) hr (by omega)
    have e3 : cT 3 = 218448 := by decide
    rw [e3] at h2
    exact ((LinesOk.one h1).app h2).le (by omega)
/-- how many rows stand in a library's modules -/
def totL (lib : Lib) : Nat := (lib.map fun m => m.2.length).sum
theorem modsT_ok : ∀ {lib : Lib}, (∀ m ∈ lib, LinesOk (modL m) (218448 * m.2.length + 80)) → LinesOk (lib.flatMap modL) (218448 * totL lib + 80 * lib.length)
  | [], _ => ⟨Nat.le_refl _, fun z hz => by cases hz⟩
  | m :: lib, h => by
    rw [List.flatMap_cons]
    have h1 := h m (List.mem_cons_self ..)
    have h2 := modsT_ok (lib := lib) fun x hx => h x (List.mem_cons_of_mem _ hx)
    refine (h1.app h2).le ?_
    unfold totL
    rw [List.map_cons, List.sum_cons, List.length_cons, Nat.mul_add]
    omega
theorem totL_take (lib : Lib) (i : Nat) : totL (lib.take i) ≤ totL lib := by
  unfold totL
  rw [List.map_take]
  generalize lib.map (fun m => m.2.length) = ns
  induction ns generalizing i with
  | nil => simp
  | cons n ns ih =>
    cases i with
    | zero => simp
    | succ i => rw [List.take_succ_cons, List.sum_cons, List.sum_cons]; have := ih i; omega
theorem modsL_ok {lib : Lib} (lr : LibR lib) (l8 : Lib8 lib) (ht : totL lib ≤ 32) (i : Nat) : LinesOk ((lib.take i).flatMap modL) 7000000 := by
  have h := modsT_ok (lib := lib.take i) fun m hm => by
    have hm2 := List.mem_of_mem_take hm
    exact modL_ok (lr.word m hm2) (lr.len m hm2) (l8 m hm2)
  refine h.le ?_
  have h1 : (lib.take i).length ≤ 8 := by rw [List.length_take]; have := lr.few; omega
  have h2 := totL_take lib i
  omega
theorem nl_sum : ∀ ls : List Str, ((ls.map fun z => z ++ ("\n" : Str)).map (·.length)).sum = szL ls
  | [] => rfl
  | z :: ls => by
    rw [List.map_cons, List.map_cons, List.sum_cons, nl_sum ls, szL_cons, Str.length_append]
    have : ("\n" : Str).length = 1 := by decide +kernel
    omega
theorem text_sum {lib : Lib} (lr : LibR lib) (l8 : Lib8 lib) (ht : totL lib ≤ 32) : (((lib.flatMap modL).map fun z => z ++ ("\n" : Str)).map (·.length)).sum + ((lib.flatMap modL).map fun z => z ++ ("\n" : Str)).length * Str.empty.length ≤ 16777216 := by
  rw [nl_sum]
  have h := (modsL_ok lr l8 ht lib.length).sz
  rw [List.take_length] at h
  have : Str.empty.length = 0 := rfl
  rw [this, Nat.mul_zero]
  omega
end Ft
set_option Elab.async false
set_option linter.all false
set_option maxRecDepth 100000
set_option maxHeartbeats 4000000
namespace Ft
open PySem L2
theorem cut2 (x : V) (rest : List V) : cutV (x :: rest) (some 2) none = rest.drop 1 := by
  unfold cutV
  rw [show HT.sIx (x :: rest).length 0 (some 2) = min 2 (x :: rest).length from HT.sIx_nat _ 0 2, HT.sIx_none]
  cases rest with
  | nil => rfl
  | cons y ys =>
    rw [show min 2 (x :: y :: ys).length = 2 by rw [List.length_cons, List.length_cons]; omega]
    show List.take (ys.length + 1 + 1 - 2) ys = ys
    rw [show ys.length + 1 + 1 - 2 = ys.length by omega, List.take_length]
theorem not_whole2 (x : V) (rest : List V) : ¬ (HT.sIx (x :: rest).length 0 (some 2) = 0 ∧ HT.sIx (x :: rest).length (x :: rest).length none = (x :: rest).length) := fun ⟨e, _⟩ => by
  rw [show HT.sIx (x :: rest).length 0 (some 2) = min 2 (x :: rest).length from HT.sIx_nat _ 0 2, List.length_cons] at e
  omega
theorem rSl2 {kd : Bool} {K : PySem.W.Frag} {H : Hp} {a : Addr} {x : V} {rest : List V} {Q : VK} (h : H a = some (mkO kd (x :: rest))) (q : ∀ p H', Same H H' → H p = none → H' p = some (mkO kd (rest.drop 1)) → Q (.ref p) H') :
    rSlL K (.ref a) (some 2) none H Q ∨ rSlT K (.ref a) (some 2) none H Q := by
  cases kd with
  | true => exact .inl ⟨a, _, rfl, SqL.of h, fun p np => q p _ (Same.new np) np (by rw [upd_same, cut2]; rfl)⟩
  | false => exact .inr ⟨a, _, rfl, SqT.of h, not_whole2 x rest, fun p np => q p _ (Same.new np) np (by rw [upd_same, cut2]; rfl)⟩
def blkD (a b c : Addr) : List (Key × V) := [(Sum.inr "make", .ref a), (Sum.inr "when", .ref b), (Sum.inr "try", .ref c)]
theorem blkD_make (a b c : Addr) : valV (mergeK [] (blkD a b c)) (Sum.inr "make") = some (.ref a) := rfl
theorem blkD_when (a b c : Addr) : valV (mergeK [] (blkD a b c)) (Sum.inr "when") = some (.ref b) := rfl
theorem blkD_try (a b c : Addr) : valV (mergeK [] (blkD a b c)) (Sum.inr "try") = some (.ref c) := rfl
theorem blkD_none (a b c : Addr) {z : Str} (h1 : z ≠ "make") (h2 : z ≠ "when") (h3 : z ≠ "try") : valV (mergeK [] (blkD a b c)) (Sum.inr z) = none := by
  have e : mergeK [] (blkD a b c) = blkD a b c := rfl
  rw [e]
  unfold valV blkD
  have k1 : ¬ (Sum.inr "make" : Key) = Sum.inr z := fun e => h1 (Sum.inr.inj e).symm
  have k2 : ¬ (Sum.inr "when" : Key) = Sum.inr z := fun e => h2 (Sum.inr.inj e).symm
  have k3 : ¬ (Sum.inr "try" : Key) = Sum.inr z := fun e => h3 (Sum.inr.inj e).symm
  simp [List.find?, k1, k2, k3]
section
variable {P : Program} {w : World} {K : PySem.W.Frag} {mg : Str → Option Value} {base : Heap}
abbrev sLBlocks : Stmt := topS 42
theorem scLBlocks : FnScope ["_law_row_here"] ["_law_row_here"] (defScope sLBlocks) := ⟨rfl, rfl, rfl, by decide +kernel, rfl, by decide +kernel, by decide +kernel⟩
theorem ok_LBlocks {f : Addr} {fd : FuncData} {k : Nat} (F : Fun K "_law_blocks" "_law_blocks" sLBlocks f fd) (B : Bl mg) : FnOk P w K mg base CX0 (k + 1) f fd ["_law_row_here"] spBlocksOf := by
  refine F.ok scLBlocks (fun vs H Q E h => ?_) (fun cdv A outer s H vs Q E hr h => ?_)
  · obtain ⟨v, ok, kk, d, wi, r, rfl, _⟩ := h
    rfl
  obtain ⟨v, ok, kk, d, wi, r, rfl, hok, hat, q⟩ := h
  refine ⟨_, (pss_one (ps_ret (pe_dget2 (hu_of hr) (pe_disp (pps_cons pe_str (pe_mid (pe_callTy call_list_of (by rfl) B.list (by decide +kernel) (pa_cons (pe_slice sl_seq (pv 0) (po_some pe_int) po_none) pa_nil))) (pps_cons pe_str (pe_mid (pe_callTy call_list_of (by rfl) B.list (by decide +kernel) (pa_cons (pe_slice sl_seq (pv 0) (po_some pe_int) po_none) pa_nil))) (pps_cons pe_str (pe_mid (pe_callTy call_list_of (by rfl) B.list (by decide +kernel) (pa_cons (pe_slice sl_seq (pv 0) (po_some pe_int) po_none) pa_nil))) pps_nil))) (by rfl) (by rfl) (fun z => by cases z) (by decide)) (pe_ix ix_seq (pv 0) pe_int (fun _ _ => rfl)) (pe_lst pa_nil) ⟨by rfl, by rfl, by rfl, by rfl⟩))), ?_⟩
  have rf := rowF_of hok
  obtain ⟨rest, ⟨a, kd, rfl, oka, kka, ha⟩, hrest⟩ := rowV_of hok hat
  refine fun p np => ?_
  have s0 : Same H (upd H p (.dK [])) := Same.new np
  have hp0 : (upd H p (.dK [])) p = some (.dK []) := upd_same
  generalize hG : upd H p _ = G0 at *
  have mid : ∀ {G : Hp}, Same H G → G p = some (.dK []) → ∀ (n : Int) (zs : List V), (n = 1 ∧ zs = rest) ∨ (n = 2 ∧ zs = rest.drop 1) → True := fun _ _ _ _ _ => trivial
  refine ⟨fun v H' => ∃ l, v = .ref l ∧ H l = none ∧ H' l = some (.lst (rest.drop 1)) ∧ Same G0 H', ?_, ?_⟩
  · refine ⟨_, rfl, 2, rfl, rSl2 (s0 _ _ ha) fun t G1 s1 nt ht => ?_⟩
    exact ⟨t, _, rfl, sqa_of (sq_of ht), fun l nl => ⟨l, rfl, Same.free (Same.trans s0 s1) nl, upd_same, Same.trans s1 (Same.new nl)⟩⟩
  rintro _ G1 ⟨l1, rfl, n1, h1, s1⟩
  refine ⟨fun v H' => ∃ l, v = .ref l ∧ H l = none ∧ H' l = some (.lst (rest.drop 1)) ∧ Same G1 H', ?_, ?_⟩
  · refine ⟨_, rfl, 2, rfl, rSl2 (s1 _ _ (s0 _ _ ha)) fun t G1' s1' nt ht => ?_⟩
    exact ⟨t, _, rfl, sqa_of (sq_of ht), fun l nl => ⟨l, rfl, Same.free (Same.trans s0 (Same.trans s1 s1')) nl, upd_same, Same.trans s1' (Same.new nl)⟩⟩
  rintro _ G2 ⟨l2, rfl, n2, h2, s2⟩
  refine ⟨fun v H' => ∃ l, v = .ref l ∧ H l = none ∧ H' l = some (.lst rest) ∧ Same G2 H', ?_, ?_⟩
  · refine ⟨_, rfl, 1, rfl, rSl1 (s2 _ _ (s1 _ _ (s0 _ _ ha))) fun t G1' s1' nt ht => ?_⟩
    exact ⟨t, _, rfl, sqa_of (sq_of ht), fun l nl => ⟨l, rfl, Same.free (Same.trans s0 (Same.trans s1 (Same.trans s2 s1'))) nl, upd_same, Same.trans s1' (Same.new nl)⟩⟩
  rintro _ G3 ⟨l3, rfl, n3, h3, s3⟩
  have s03 : Same G0 G3 := Same.trans s1 (Same.trans s2 s3)
  have hp3 : G3 p = some (.dK []) := s03 _ _ hp0
  refine ⟨hp3, blkD l1 l2 l3, rfl, by show 3 ≤ 15; decide, p, rfl, .inl ⟨_, .inl upd_same⟩, ?_⟩
  have sG : Same H (upd G3 p (.dK (mergeK [] (blkD l1 l2 l3)))) := Same.upN (Same.trans s0 s03) np
  have hk : ∀ {l : Addr} {xs : List V}, H l = none → G3 l = some (.lst xs) → (upd G3 p (.dK (mergeK [] (blkD l1 l2 l3)))) l = some (.lst xs) := fun {l xs} _ h => by
    rw [upd_ne (fun e => by rw [e, hp3] at h; cases h)]; exact h
  have k1 := hk n1 (s3 _ _ (s2 _ _ h1))
  have k2 := hk n2 (s3 _ _ h2)
  have k3 := hk n3 h3
  have hpD : (upd G3 p (.dK (mergeK [] (blkD l1 l2 l3)))) p = some (.dK (mergeK [] (blkD l1 l2 l3))) := upd_same
  generalize hG4 : upd G3 p _ = G4 at *
  refine ⟨_, rfl, rIx_seq (sq_of (sG _ _ ha)) (atI_nat (j := 0) rfl) ⟨Nat.zero_le _, fun e0 ne0 => ?_⟩⟩
  have s5 : Same G4 (upd G4 e0 (.lst [])) := Same.new ne0
  refine ⟨_, .inl ⟨_, Sum.inr (rowWord r), .inl (s5 _ _ hpD), rfl, rfl⟩, ?_⟩
  have sE : Same H (upd G4 e0 (.lst [])) := Same.trans sG s5
  have blk : ∀ {x : V} {b : List Row}, FlAt ok kk H d x (.blk b) → BlkAt ok kk H d x b := fun h => h
  have plain : ∀ {z : Str} {fs : List V}, r = .plain z fs → plainOk wi z fs → Q ((valV (mergeK [] (blkD l1 l2 l3)) (Sum.inr z)).getD (.ref e0)) (upd G4 e0 (.lst [])) := fun {z fs} er hp => by
    obtain ⟨ks, hk, _⟩ := hp
    have nn : ∀ p ∈ plainT, p.1 ≠ "make" ∧ p.1 ≠ "when" ∧ p.1 ≠ "try" := by decide +kernel
    obtain ⟨m1, m2, m3⟩ := nn _ hk
    rw [blkD_none l1 l2 l3 m1 m2 m3]
    exact q _ e0 [] sE (Same.free sG ne0) upd_same (by rw [er]; exact .nil)
  cases d with
  | zero =>
    cases r with
    | plain z fs => exact plain rfl hok
    | _ => exact hok.elim
  | succ d =>
    cases r with
    | plain z fs => exact plain rfl hok
    | make n b =>
      show Q ((valV (mergeK [] (blkD l1 l2 l3)) (Sum.inr "make")).getD (.ref e0)) _
      rw [blkD_make]
      cases hrest with
      | cons r1 t =>
        cases t with
        | cons r2 t =>
          cases t
          exact q _ l1 _ sE n1 (s5 _ _ k1) (.cons (blk r2) .nil)
    | when n b c =>
      show Q ((valV (mergeK [] (blkD l1 l2 l3)) (Sum.inr "when")).getD (.ref e0)) _
      rw [blkD_when]
      cases hrest with
      | cons r1 t =>
        cases t with
        | cons r2 t =>
          cases t with
          | cons r3 t =>
            cases t
            exact q _ l2 _ sE n2 (s5 _ _ k2) (.cons (blk r2) (.cons (blk r3) .nil))
    | try_ b c =>
      show Q ((valV (mergeK [] (blkD l1 l2 l3)) (Sum.inr "try")).getD (.ref e0)) _
      rw [blkD_try]
      cases hrest with
      | cons r2 t =>
        cases t with
        | cons r3 t =>
          cases t
          exact q _ l3 _ sE n3 (s5 _ _ k3) (.cons (blk r2) (.cons (blk r3) .nil))
end
end Ft
set_option Elab.async false
set_option linter.all false
set_option maxRecDepth 100000
set_option maxHeartbeats 4000000
namespace Ft
open PySem L2
def PlainV (v : V) : Prop := (∃ z, v = .str z) ∨ ∃ i, v = .int i ∧ i.natAbs.log2 < 1920
theorem words_plain {names : List Str} : ∀ {fs : List V}, names.length = fs.length → (names.zip (fs.map Fl.at)).filterMap flW = fs.map strV := by
  induction names with
  | nil =>
    intro fs h
    cases fs with
    | nil => rfl
    | cons _ _ => cases h
  | cons n names ih =>
    intro fs h
    cases fs with
    | nil => cases h
    | cons v fs =>
      rw [List.map_cons, List.zip_cons_cons, List.filterMap_cons, List.map_cons]
      show strV v :: _ = _
      rw [ih (Nat.succ.inj h)]
/-- a row's things: plain ones, then its blocks -/
theorem atoms_of {ok : Addr → Prop} {kk : Bool → Bool → Prop} {H : Hp} {d : Nat} {wi : Bool} {r : Row} {rest : List V} (h : RowOk d wi r) (hp : Paired (fun x (f : Str × Fl) => FlAt ok kk H d x f.2) rest (flds r)) :
    ∃ ats bs, rest = ats ++ bs ∧ bs.length = (blocks r).length ∧ ats.map strV = words r ∧ ∀ v ∈ ats, PlainV v := by
  have plain : ∀ {w : Str} {fs : List V}, plainOk wi w fs → Paired (fun x (f : Str × Fl) => FlAt ok kk H d x f.2) rest (flds (.plain w fs)) → ∃ ats bs, rest = ats ++ bs ∧ bs.length = (blocks (.plain w fs)).length ∧ ats.map strV = words (.plain w fs) ∧ ∀ v ∈ ats, PlainV v := by
    intro w fs hk h
    obtain ⟨names, e, hl, _, hok⟩ := flds_plain hk 0 false
    have h' : Paired (fun x (f : Str × Fl) => FlAt ok kk H d x f.2) rest (((fieldsOf w).getD []).zip (fs.map Fl.at)) := h
    rw [e] at h'
    have er := zip_at' hl h'
    refine ⟨fs, [], by rw [er, List.append_nil], rfl, ?_, fun v hv => ?_⟩
    · show _ = (((fieldsOf w).getD []).zip (fs.map Fl.at)).filterMap flW
      rw [e]
      exact (words_plain hl).symm
    · obtain ⟨i, hi, ei⟩ := List.mem_iff_getElem.mp hv
      have hz : (names.zip (fs.map Fl.at))[i]? = some (names[i], Fl.at v) := by
        rw [List.getElem?_zip_eq_some]
        exact ⟨List.getElem?_eq_getElem (by omega), by rw [List.getElem?_map, List.getElem?_eq_getElem hi, ei]; rfl⟩
      exact str_fl (hok _ (List.mem_of_getElem? hz))
  cases d with
  | zero =>
    cases r with
    | plain w fs => exact plain h hp
    | _ => exact h.elim
  | succ d =>
    cases r with
    | plain w fs => exact plain h hp
    | make n b =>
      cases hp with
      | cons r1 t =>
        cases t with
        | cons r2 t =>
          cases t
          have e : _ = V.str n := r1
          subst e
          exact ⟨[.str n], [_], rfl, rfl, rfl, fun v hv => .inl ⟨n, List.mem_singleton.mp hv⟩⟩
    | when n b c =>
      cases hp with
      | cons r1 t =>
        cases t with
        | cons r2 t =>
          cases t with
          | cons r3 t =>
            cases t
            have e : _ = V.str n := r1
            subst e
            exact ⟨[.str n], [_, _], rfl, rfl, rfl, fun v hv => .inl ⟨n, List.mem_singleton.mp hv⟩⟩
    | try_ b c =>
      cases hp with
      | cons r2 t =>
        cases t with
        | cons r3 t =>
          cases t
          exact ⟨[], [_, _], rfl, rfl, rfl, fun v hv => by cases hv⟩
/-- x[:len(x) - k] -/
theorem cut_to {ats bs : List V} {Q : VK} {K : PySem.W.Frag} {H : Hp} {a : Addr} (h : H a = some (.tup (ats ++ bs))) (q : ∀ p H', Same H H' → H' p = some (.tup ats) → Q (.ref p) H') :
    rSlA K (.ref a) none (some (((ats ++ bs).length : Int) - (bs.length : Int))) H Q := by
  have e1 : (((ats ++ bs).length : Int) - (bs.length : Int)) = ((ats.length : Nat) : Int) := by rw [List.length_append]; omega
  rw [e1]
  have ec : cutV (ats ++ bs) none (some ((ats.length : Nat) : Int)) = ats := by
    unfold cutV
    rw [HT.sIx_none, HT.sIx_nat, List.drop_zero, Nat.sub_zero, Nat.min_eq_left (by rw [List.length_append]; omega), List.take_left']
    rfl
  refine ⟨a, _, rfl, SqT.of h, fun hw => ?_, fun _ p np => q p _ (Same.new np) (by rw [upd_same, ec])⟩
  have h2 := hw.2
  rw [HT.sIx_nat, Nat.min_eq_left (by rw [List.length_append]; omega), List.length_append] at h2
  have : bs = [] := List.length_eq_zero_iff.mp (by omega)
  subst this
  rw [List.append_nil] at h
  exact q a H (Same.refl H) h
theorem words_sum {d : Nat} {wi : Bool} {r : Row} (h : RowOk d wi r) : ((rowWord r :: words r).map (·.length)).sum + (rowWord r :: words r).length * (" " : Str).length ≤ 16777216 := by
  obtain ⟨wsh, wl⟩ := words_shy h
  have go : ∀ {ls : List Str}, (∀ z ∈ ls, Shy 8 z) → (ls.map (·.length)).sum ≤ ls.length * 8 := by
    intro ls h
    induction ls with
    | nil => exact Nat.zero_le _
    | cons z ls ih =>
      have h1 := (h z (by simp)).1
      have h2 := ih fun y hy => h y (by simp [hy])
      rw [List.map_cons, List.sum_cons, List.length_cons, Nat.succ_mul]
      omega
  have h1 := go wsh
  have h2 := Nat.mul_le_mul_right 8 wl
  have h3 : (rowWord r :: words r).length * (" " : Str).length ≤ 4 * 1 := Nat.mul_le_mul wl (by decide +kernel)
  omega
theorem words_join {d : Nat} {wi : Bool} {r : Row} (h : RowOk d wi r) : (Txt.join " " (rowWord r :: words r)).length ≤ 36 := by
  obtain ⟨wsh, wl⟩ := words_shy h
  have := (join_shy (n := 8) (sep := " ") ⟨by decide +kernel, by decide +kernel⟩ wsh).1
  have h2 := Nat.mul_le_mul_right (8 + 1) wl
  exact Nat.le_trans this h2
section
variable {P : Program} {w : World} {K : PySem.W.Frag} {mg : Str → Option Value} {base : Heap}
abbrev sLLines : Stmt := topS 43
theorem scLLines : FnScope ["_law_rows", "_law_deep", "_law_found", "_law_row_here", "_law_blocks_here", "_law_part", "_law_nth", "_law_block_here"] ["_law_rows", "_law_deep"] (defScope sLLines) := ⟨rfl, rfl, rfl, by decide +kernel, rfl, by decide +kernel, by decide +kernel⟩
def spLLines (d : Nat) : Sp := fun vs H Q _ => ∃ (v : V) (n : Nat) (ok : Addr → Prop) (wi : Bool) (rs : List Row), vs = [v, .int n] ∧ RowsAt ok lawK H d v rs ∧ rs.length ≤ 24 ∧ (∀ r ∈ rs, RowO8 d wi r) ∧ n + d ≤ 4 ∧ 1 ≤ n ∧
  ∀ H' l, Same H H' → H l = none → H' l = some (.lst ((linesB d n rs).map V.str)) → Q (.ref l) H'
theorem ok_LLines {f : Addr} {fd : FuncData} {k d : Nat} {spF : Sp} (F : Fun K "_law_lines" "_law_lines" sLLines f fd) (B : Bl mg) (hk : 1 ≤ k) (gLBlocks : Own P w K mg base 1 "_law_blocks" ["_law_row_here"] spBlocksOf)
    (gLLines : Own P w K mg base k "_law_lines" ["_law_rows", "_law_deep"] spF) (hF : ∀ e, d = e + 1 → spF = spLLines e) : FnOk P w K mg base CX0 (k + 1) f fd ["_law_rows", "_law_deep"] (spLLines d) := by
  refine F.ok scLLines (fun vs H Q E h => ?_) (fun cdv A outer s H vs Q E hr h => ?_)
  · obtain ⟨v, n, ok, wi, rs, rfl, _⟩ := h
    rfl
  obtain ⟨v, n, ok0, wi, rs, rfl, hrs, hlen, hok, hnd, hn1, q⟩ := h
  obtain ⟨ok, okl, xs, ⟨a, kd, rfl, oka, kka, ha⟩, hxs⟩ : ∃ ok : Addr → Prop, (∀ x, ok x → H x ≠ none) ∧ RowsAt ok lawK H d v rs := ⟨fun x => ok0 x ∧ H x ≠ none, fun _ k => k.2, hrs.to (Keep.mono fun x k hx => ⟨k, hx⟩)⟩
  have ekd : kd = true := kka
  subst ekd
  have ha : H a = some (.lst xs) := ha
  refine ⟨_, (pss_cons (ps_set (i := 2) scLLines.nd rfl (by first | exact Or.inl rfl | exact Or.inr rfl) (pe_lst pa_nil))
      (pss_cons (ps_for PassesOwn.never rfl (pi_list (pv 0)) (pg_name (i := 3) scLLines.nd rfl (by first | exact Or.inl rfl | exact Or.inr rfl)) (pss_cons (ps_set (i := 4) scLLines.nd rfl (by first | exact Or.inl rfl | exact Or.inr rfl) (pe_own gLBlocks (hr.mono (by omega)) (by rfl) (pa_cons (pv 3) pa_nil)))
      (pss_cons (ps_expr (pe_bm PySem.F.plainAttrs_list PySem.F.slot_list_append PySem.F.type_list_append mt_append (pv 2) (pa_cons (pe_op op_add_str (pe_op op_mul_str pe_str (pv 1)) (pe_join pe_str (pe_lc (own := [("_law_part", 5)]) (g := (gName 5)) (tt := tYes) (by rfl) scLLines.nd (pi_tup (pe_slice sl_tupA (pv 3) po_none (po_some (pe_op op_sub (pe_callB call_len_seq (by rfl) B.len (by decide +kernel) (pa_cons (pv 3) pa_nil)) (pe_callB call_len_seq (by rfl) B.len (by decide +kernel) (pa_cons (pv 4) pa_nil)))))) (blkOk_by (own := [("_law_part", 5)]) (N := ["_law_rows", "_law_deep", "_law_found", "_law_row_here", "_law_blocks_here", "_law_part", "_law_nth", "_law_block_here"]) (sc := defScope sLLines) (by decide +kernel)) (fun _ _ _ _ _ => (pg_name (i := 5) scLLines.nd rfl (by first | exact Or.inl rfl | exact Or.inr rfl))) (fun _ _ _ _ _ => pts_nil) (fun _ _ _ _ _ => (pe_callTy call_strA (by rfl) B.str (by decide +kernel) (pa_cons (pv 5) pa_nil)))))) pa_nil)))
      (pss_one (ps_for PassesOwn.never rfl (pi_enumQ (by rfl) B.enumerate (pa_cons (pv 4) pa_nil)) (pg_tup (by rfl) (pgs_cons (pg_name (i := 6) scLLines.nd rfl (by first | exact Or.inl rfl | exact Or.inr rfl)) (pgs_cons (pg_name (i := 7) scLLines.nd rfl (by first | exact Or.inl rfl | exact Or.inr rfl)) pgs_nil))) (pss_one (ps_set (i := 2) scLLines.nd rfl (by first | exact Or.inl rfl | exact Or.inr rfl) (pe_op op_cat (pe_op op_cat (pv 2) (pe_op op_rep (pe_lst (pa_cons (pe_op op_add_str (pe_op op_mul_str pe_str (pv 1)) pe_str) pa_nil)) (pv 6))) (pe_own gLLines (hr.mono (by omega)) (by rfl) (pa_cons (pv 7) (pa_cons (pe_op op_add (pv 1) pe_int) pa_nil)))))))))))
      (pss_one (ps_ret (pe_ifExp (pt_cmpR (op_neD hr.units) (pv 0) (pe_lst pa_nil) (nomark _)) (pv 2) (pe_lst (pa_cons (pe_op op_add_str (pe_op op_mul_str pe_str (pv 1)) pe_str) pa_nil))))))), ?_⟩
  have il : (ind n).length ≤ 8 := by rw [ind_len]; omega
  have bg : sizeLine ≥ 16777216 := by decide
  have ct : 24 * cT d ≤ 5242752 := cT_le24 (by omega)
  have l2 : ("  " : Str).length = 2 := by decide +kernel
  refine ⟨Nat.zero_le _, fun l0 nl0 => ?_⟩
  have s0 : Same H (upd H l0 (.lst [])) := Same.new nl0
  refine ⟨_, rfl, a, rfl, ⟨_, SqL.of (s0 _ _ ha)⟩, ?_⟩
  have pre : ∀ i, LinesOk ((rs.take i).flatMap (linesR d n)) (24 * cT d) := fun i => (LinesOk.flat fun r hr => linesR_ok (hok r (List.mem_of_mem_take hr)) hnd).le (Nat.mul_le_mul_right _ (by rw [List.length_take]; omega))
  refine for_it walk_list (fun i σ H' => Same H H' ∧ ∃ l v3 v4 v5 v6 v7, σ = [some (.ref a), some (.int n), some (.ref l), v3, v4, v5, v6, v7] ∧ H l = none ∧ H' l = some (.lst (((rs.take i).flatMap (linesR d n)).map V.str)))
    ⟨s0, l0, none, none, none, none, none, rfl, nl0, upd_same⟩ (fun i σ H' _ ⟨sm, _⟩ => SqL.of (sm _ _ ha)) ?_ ?_
  · rintro i x σ H1 H2 hi ⟨sm, l, v3, v4, v5, v6, v7, rfl, nl, hl⟩ ⟨rfl, hx⟩
    obtain ⟨r, hr', hrow⟩ := paired_get hxs hx
    have rok8 := hok r (List.mem_of_getElem? hr')
    have rok := rok8.ok
    have hrow1 : RowAt ok lawK H2 d x r := hrow.to (Keep.fr (Fr.same sm) fun _ k => k)
    -- blocks
    refine ⟨_, rfl, x, ok, lawK, d, wi, r, rfl, rok, hrow1, fun G bl ys s2 nb hbl hys => ?_⟩
    have hrow2 : RowAt ok lawK G d x r := hrow1.to (Keep.fr (Fr.same s2) fun _ k => k)
    obtain ⟨rest, ⟨ra, rkd, rfl, roka, rkka, hra⟩, hrest⟩ := rowV_of rok hrow2
    have ek : rkd = false := rkka
    subst ek
    obtain ⟨ats, bs, rfl, hbs, hats, hpl⟩ := atoms_of rok hrest
    have hra : G ra = some (.tup ((.str (rowWord r) :: ats) ++ bs)) := hra
    have hlG := s2 _ _ hl
    have lb : ys.length = bs.length := by rw [hbs]; exact paired_len hys
    -- found.append
    refine ⟨_, rfl, .inl ⟨rfl, _, SqL.of hlG⟩, ?_⟩
    refine ⟨_, rfl, _, n, rfl, rfl, by omega, by omega, by omega, ?_⟩
    refine ⟨⟨_, rfl⟩, ?_⟩
    refine ⟨_, rfl, _, rfl, ra, _, rfl, .inr (SqT.of hra), _, rfl, bl, ys, rfl, .inl (SqL.of hbl), _, _, rfl, rfl, _, rfl, ?_⟩
    rw [lb]
    refine cut_to hra fun p G2 s3 hp => ?_
    refine ⟨p, rfl, ⟨_, SqT.of hp⟩, fun L nL => ?_⟩
    have hl2 := s3 _ _ hlG
    refine lc_it walk_tup (fun i H' => Same G2 H' ∧ H' L = some (.lst ((((V.str (rowWord r) :: ats).take i).map strV).map V.str)))
      ⟨Same.new nL, upd_same⟩ (fun i H' _ ⟨s4, _⟩ => SqT.of (s4 _ _ hp)) ?_ ?_
    · rintro i2 y H3 H4 hi2 ⟨s4, hL⟩ ⟨rfl, hy⟩
      have et : (V.str (rowWord r) :: ats).take (i2 + 1) = (V.str (rowWord r) :: ats).take i2 ++ [y] := by rw [List.take_add_one, hy]; rfl
      have py : PlainV y := by
        rcases List.mem_cons.mp (List.mem_of_getElem? hy) with e | e
        · exact .inl ⟨_, e⟩
        · exact hpl y e
      have hsm : ((((V.str (rowWord r) :: ats).take i2).map strV).map V.str).length < sizeLine := by
        refine small ?_
        have lw := (words_shy rok).2
        rw [← hats] at lw
        rw [List.length_map, List.length_map, List.length_take]
        simp at lw ⊢
        omega
      have hup : ∀ z, strV y = z → (upd H4 L (.lst ((((V.str (rowWord r) :: ats).take i2).map strV).map V.str ++ [.str z]))) L = some (.lst ((((V.str (rowWord r) :: ats).take (i2 + 1)).map strV).map V.str)) := fun z ez => by
        rw [upd_same, et, List.map_append, List.map_append, ← ez]
        rfl
      refine ⟨rfl, ?_⟩
      rcases py with ⟨z, rfl⟩ | ⟨j, rfl, hj⟩
      · exact ⟨_, rfl, .inl ⟨z, rfl, _, hL, hsm, Same.upN s4 nL, hup z rfl⟩⟩
      · exact ⟨_, rfl, .inr ⟨j, rfl, hj, _, hL, hsm, Same.upN s4 nL, hup _ rfl⟩⟩
    · rintro H3 ⟨s4, hL⟩
      rw [List.take_length, List.map_cons, hats] at hL
      have hL' : H3 L = some (.lst ((rowWord r :: words r).map V.str)) := hL
      refine ⟨_, L, rowWord r :: words r, rfl, rfl, .inl (SqL.of hL'), words_sum rok, ?_⟩
      have jl := words_join rok
      have ei : repS "  " n = ind n := rfl
      rw [ei]
      refine ⟨_, _, rfl, rfl, by omega, ?_⟩
      have ehd : ind n ++ Txt.join " " (rowWord r :: words r) = headL n r := rfl
      rw [ehd]
      have hl3 := s4 _ _ hl2
      refine ⟨l, _, _, rfl, rfl, hl3, big (by rw [List.length_map]; exact Nat.le_trans (szL_len _) (Nat.le_trans (pre i).sz (by omega))), ?_⟩
      have s23 : Same H2 H3 := Same.trans s2 (Same.trans s3 s4)
      have lbl : bl ≠ l := fun e => by rw [e, hl] at nb; cases nb
      have sG7 : Same H (upd H3 l (.lst (((rs.take i).flatMap (linesR d n)).map V.str ++ [.str (headL n r)]))) := Same.upN (Same.trans sm s23) nl
      have hl7 : (upd H3 l (.lst (((rs.take i).flatMap (linesR d n)).map V.str ++ [.str (headL n r)]))) l = some (.lst (((rs.take i).flatMap (linesR d n) ++ [headL n r]).map V.str)) := by
        rw [upd_same, List.map_append]; rfl
      have hbl7 : (upd H3 l (.lst (((rs.take i).flatMap (linesR d n)).map V.str ++ [.str (headL n r)]))) bl = some (.lst ys) := by rw [upd_ne lbl]; exact s4 _ _ (s3 _ _ hbl)
      have kp7 : Keep ok ok H2 (upd H3 l (.lst (((rs.take i).flatMap (linesR d n)).map V.str ++ [.str (headL n r)]))) := fun x kd zs k e => ⟨k, by rw [upd_ne fun z => okl x k (by rw [z]; exact nl)]; exact s23 _ _ e⟩
      generalize hG7 : upd H3 l _ = G7 at *
      refine ⟨_, rfl, bl, true, ys, rfl, sq_of hbl7, ?_⟩
      refine for_it walk_enumQ (fun j σ H' => Same H H' ∧ Same G7 H' ∧ ∃ l' v6 v7, σ = [some (.ref a), some (.int n), some (.ref l'), some (.ref ra), some (.ref bl), v5, v6, v7] ∧ H l' = none ∧
          H' l' = some (.lst (((rs.take i).flatMap (linesR d n) ++ [headL n r] ++ ((blocks r).zipIdx.take j).flatMap (blkL d n)).map V.str)))
        ⟨sG7, Same.refl _, l, v6, v7, rfl, nl, ?_⟩ (fun j σ H' _ ⟨_, h, _⟩ => sq_of (kd := true) (h _ _ hbl7)) ?_ ?_
      · rw [List.take_zero, List.flatMap_nil, List.append_nil]
        exact hl7
      · rintro j y σ H5 H6 hj ⟨sm5, s75, l', w6, w7, rfl, nl', hl5⟩ ⟨T2, y1, y2, rfl, nT2, rfl, f1, f2⟩
        have f1' : y1 = .int (j : Nat) := (Option.some.inj f1).symm
        subst f1'
        obtain ⟨b, hb', e, rfl, hrows⟩ := paired_get hys f2
        have eF := hF e rfl
        subst eF
        obtain ⟨e', he', h8, hr8⟩ := blk_ok8 rok8 (List.mem_of_getElem? hb')
        have ee : e = e' := Nat.succ.inj he'
        subst ee
        have s6' : Same H5 (upd H5 T2 (.tup [.int (j : Nat), y2])) := Same.new nT2
        refine ⟨T2, _, rfl, SqT.of upd_same, rfl, _, _, rfl, _, _, rfl, rfl, ?_⟩
        generalize hG5 : upd H5 T2 _ = G5 at *
        have hl6 := s6' _ _ hl5
        have j2 : j ≤ 1 := by
          have := blocks_len2 r
          have h3 : ys.length = (blocks r).length := paired_len hys
          omega
        have hpre : LinesOk ((rs.take i).flatMap (linesR (e + 1) n) ++ [headL n r] ++ ((blocks r).zipIdx.take j).flatMap (blkL (e + 1) n)) (24 * cT (e + 1) + 100 + 1 * (13 + 8 * cT (e + 1))) := by
          refine ((pre i).app ((LinesOk.one (head_shy rok)).le (by omega))).app ((LinesOk.flat (c := 13 + 8 * cT (e + 1)) fun q hq => ?_).le ?_)
          · obtain ⟨e2, he2, h82, hr82⟩ := blk_ok8 rok8 (mem_zipIdx_fst (List.mem_of_mem_take hq))
            have ee2 : e = e2 := Nat.succ.inj he2
            subst ee2
            exact (elseL_ok (by omega)).app ((linesB_ok h82 hr82 (by omega)).le (by show 8 * cT e ≤ 8 * (80 + 16 * cT e); omega))
          · exact Nat.mul_le_mul_right _ (by rw [List.length_take]; omega)
        have hps : szL ((rs.take i).flatMap (linesR (e + 1) n) ++ [headL n r] ++ ((blocks r).zipIdx.take j).flatMap (blkL (e + 1) n)) ≤ 8000000 := Nat.le_trans hpre.sz (by omega)
        generalize hW : (rs.take i).flatMap (linesR (e + 1) n) ++ [headL n r] ++ ((blocks r).zipIdx.take j).flatMap (blkL (e + 1) n) = W at *
        have lW := szL_len W
        have l4 : ("else" : Str).length = 4 := by decide +kernel
        refine ⟨_, rfl, _, rfl, _, n, rfl, rfl, by omega, by omega, by omega, ?_⟩
        rw [ei]
        refine ⟨_, _, rfl, rfl, by omega, (by show 1 ≤ sizeLine; decide), fun t1 nt1 => ?_⟩
        refine ⟨_, rfl, t1, j, _, rfl, rfl, upd_same, by omega, by omega, ?_, fun t2 nt2 => ?_⟩
        · show 1 * ((j : Nat) : Int).toNat ≤ sizeLine
          rw [Int.toNat_natCast]
          omega
        have ee : (List.replicate (((j : Nat) : Int)).toNat [V.str (ind n ++ ("else" : Str))]).flatten = (elseL n j).map V.str := by
          rw [Int.toNat_natCast]
          have hj2 : j = 0 ∨ j = 1 := by omega
          rcases hj2 with e | e <;> subst e <;> rfl
        rw [ee]
        have s7 : Same G5 (upd (upd G5 t1 (.lst [.str (ind n ++ ("else" : Str))])) t2 (.lst ((elseL n j).map V.str))) := Same.trans (Same.new nt1) (Same.new nt2)
        have ht2 : (upd (upd G5 t1 (.lst [.str (ind n ++ ("else" : Str))])) t2 (.lst ((elseL n j).map V.str))) t2 = some (.lst ((elseL n j).map V.str)) := upd_same
        generalize hG8 : upd (upd G5 t1 _) t2 _ = G8 at *
        have el : (elseL n j).length ≤ 1 := by unfold elseL; split <;> simp
        refine ⟨l', t2, _, _, rfl, rfl, s7 _ _ hl6, ht2, bigE (by rw [List.length_map, List.length_map]; omega), fun t3 nt3 => ?_⟩
        have s8 : Same G8 (upd G8 t3 (.lst (W.map V.str ++ (elseL n j).map V.str))) := Same.new nt3
        have ht3 : (upd G8 t3 (.lst (W.map V.str ++ (elseL n j).map V.str))) t3 = some (.lst ((W ++ elseL n j).map V.str)) := by rw [upd_same, List.map_append]
        generalize hG9 : upd G8 t3 _ = G9 at *
        have s59 : Same H5 G9 := Same.trans s6' (Same.trans s7 s8)
        refine ⟨_, rfl, _, rfl, _, _, rfl, rfl, ?_⟩
        refine ⟨y2, n + 1, ok, _, b, (by rfl), hrows.to (kp7.trans (Keep.fr (Fr.same (Same.trans s75 s59)) fun _ k => k)), Nat.le_trans h8 (by decide), hr8, by omega, by omega, fun G10 l2 s10 nl2 hl2 => ?_⟩
        have lk := linesB_ok (n := n + 1) h8 hr8 (by omega)
        have ce : 8 * cT e ≤ 8 * cT (e + 1) := by show 8 * cT e ≤ 8 * (80 + 16 * cT e); omega
        have lk2 := szL_len (linesB e (n + 1) b)
        have lk3 := lk.sz
        refine ⟨t3, l2, _, _, rfl, rfl, s10 _ _ ht3, hl2, bigE (by rw [List.length_map, List.length_map, List.length_append]; omega), fun t4 nt4 => ?_⟩
        have s5A : Same H5 (upd G10 t4 (.lst ((W ++ elseL n j).map V.str ++ (linesB e (n + 1) b).map V.str))) := Same.trans s59 (Same.trans s10 (Same.new nt4))
        refine ⟨Same.trans sm5 s5A, Same.trans s75 s5A, t4, _, _, rfl, Same.free (Same.trans sm5 (Same.trans s59 s10)) nt4, ?_⟩
        have ez : (blocks r).zipIdx[j]? = some (b, j) := by rw [List.getElem?_zipIdx, hb']; simp
        rw [upd_same, List.take_add_one, ez, List.flatMap_append, ← List.append_assoc, hW]
        rw [show ((some (b, j) : Option (List Row × Nat)).toList.flatMap (blkL (e + 1) n)) = elseL n j ++ linesB e (n + 1) b by
          show List.flatMap (blkL (e + 1) n) [(b, j)] = _
          rw [List.flatMap_cons, List.flatMap_nil, List.append_nil]
          rfl]
        rw [← List.append_assoc, List.map_append (l₁ := W ++ elseL n j)]
      · rintro σ H5 ⟨sm5, s75, l', w6, w7, rfl, nl', hl5⟩
        refine ⟨sm5, l', _, _, _, _, _, rfl, nl', ?_⟩
        have ly : ys.length = (blocks r).length := paired_len hys
        have ez : rs[i]? = some r := hr'
        have et : (blocks r).zipIdx.take ys.length = (blocks r).zipIdx := List.take_of_length_le (by rw [List.length_zipIdx]; omega)
        rw [et] at hl5
        rw [List.take_add_one, ez, List.flatMap_append]
        rw [show ((some r : Option Row).toList.flatMap (linesR d n)) = headL n r :: (blocks r).zipIdx.flatMap (blkL d n) by
          show List.flatMap (linesR d n) [r] = _
          rw [List.flatMap_cons, List.flatMap_nil, List.append_nil, linesR_eq rok]]
        rw [List.append_assoc] at hl5
        exact hl5
  · rintro σ H1 ⟨sm, l, v3, v4, v5, v6, v7, rfl, nl, hl⟩
    have lxs : xs.length = rs.length := paired_len hxs
    have et : rs.take xs.length = rs := List.take_of_length_le (by omega)
    rw [et] at hl
    refine ⟨_, rfl, Nat.zero_le _, fun e0 ne0 => ?_⟩
    have s1 : Same H1 (upd H1 e0 (.lst [])) := Same.new ne0
    have sE : Same H (upd H1 e0 (.lst [])) := Same.trans sm s1
    have dta : DtAt (upd H1 e0 (.lst [])) (2 * d + 2) (.ref a) (.sq true (rs.map (rowDT false true d))) := ⟨a, xs, rfl, sE _ _ ha, by rw [List.length_map]; omega, paired_mapR (paired_impM hxs fun x r hr q => row_dt (kr := false) (kb := true) (fun s b h => by cases s <;> exact h) d wi x r (hok r hr).ok (q.to (Keep.fr (Fr.same sE) fun _ k => k)))⟩
    have dto : dtOk (.sq true (rs.map (rowDT false true d))) = true := by rw [dtOk]; exact dtOks_map fun r hr => row_dtOk d wi r (hok r hr).ok
    refine ⟨_, .list [], dp_dt _ _ _ dta, .lst (SqL.of upd_same) .nil, shaped_dt dta dto (by omega), by decide +kernel, _, rfl, ?_⟩
    cases hrs2 : rs with
    | nil =>
      have e0 : PyData.eqv (dtD (.sq true (rs.map (rowDT false true d)))) (.list []) = true := by rw [hrs2, List.map_nil, dtD, dtDs]; decide +kernel
      rw [← hrs2, e0]
      refine iteF ⟨_, rfl, _, n, rfl, rfl, by omega, by omega, by omega, ?_⟩
      refine ⟨_, _, rfl, rfl, ?_, (by show 1 ≤ sizeLine; decide), fun l3 nl3 => ?_⟩
      · have h1 : ("nothing" : Str).length = 7 := by decide +kernel
        have h2 : (repS "  " n).length = (ind n).length := rfl
        omega
      refine q _ l3 (Same.trans sE (Same.new nl3)) (Same.free sE nl3) ?_
      rw [upd_same]
      unfold linesB
      rw [hrs2]
      rfl
    | cons r0 rs0 =>
      have e0 : PyData.eqv (dtD (.sq true (rs.map (rowDT false true d)))) (.list []) = false := by rw [hrs2, List.map_cons, dtD, dtDs, PyData.eqv, PyData.eqvAll]
      rw [← hrs2, e0]
      refine iteT ⟨_, rfl, ?_⟩
      refine q _ l sE nl ?_
      have e3 : linesB d n rs = rs.flatMap (linesR d n) := by
        unfold linesB
        rw [hrs2]
        rfl
      rw [e3]
      exact s1 _ _ hl
theorem llines_ok {f : Addr} {fd : FuncData} (F : Fun K "_law_lines" "_law_lines" sLLines f fd) (B : Bl mg) (m : mg "_law_lines" = some (.ref f)) (b : Binds K fd ["_law_rows", "_law_deep"] []) (gLBlocks : Own P w K mg base 1 "_law_blocks" ["_law_row_here"] spBlocksOf) :
    ∀ d : Nat, Own P w K mg base (2 + d) "_law_lines" ["_law_rows", "_law_deep"] (spLLines d)
  | 0 => own_mk F m b (ok_LLines (k := 1) F B (by omega) gLBlocks (own_mk F m b fn_false) (fun e h => absurd h (by omega)))
  | d + 1 => own_mk F m b (ok_LLines (k := 2 + d) F B (by omega) gLBlocks (llines_ok F B m b gLBlocks d) (fun e h => by
      have : d = e := by omega
      rw [this]))
end
end Ft
set_option Elab.async false
set_option linter.all false
set_option maxRecDepth 100000
set_option maxHeartbeats 4000000
namespace Ft
open PySem L2
section
variable {P : PySem.Program} {w : World} {K : PySem.W.Frag} {mg : Str → Option Value} {base : Heap}
abbrev sProgramRows : Stmt := inClass (topS 28) 6
theorem scProgramRows : FnScope ["self", "module"] ["self", "module"] (defScope sProgramRows) := ⟨rfl, rfl, rfl, by decide +kernel, rfl, by decide +kernel, by decide +kernel⟩
/-- the same where the dict may be locked -/
def spProgramRowsR (C : Addr) : Sp := fun vs H Q _ => ∃ (x dx rd : Addr) (sv : V) (kvs : List (Key × V)) (lib : Lib) (ok : Addr → Prop) (z : Str) (rs : List Row), vs = [.ref x, .str z] ∧ H x = some (.ins C dx [("rows_of", .ref rd), ("spots", sv)]) ∧ Rd H rd (.dK kvs) ∧ LibAt ok tupK H kvs lib ∧ (lib.map (·.1)).Nodup ∧ (z, rs) ∈ lib ∧
  ∀ l xs, H l = none → Paired (RowAt ok tupK H 3) xs rs → Q (.ref l) (upd H l (.lst xs))
theorem ok_ProgramRowsR {f C : Addr} {fd : FuncData} {k : Nat} (F : Fun K "rows" "Program.rows" sProgramRows f fd) (B : Bl mg) (PC : PCls K mg C) : FnOk P w K mg base CX0 (k + 1) f fd ["self", "module"] (spProgramRowsR C) := by
  refine F.ok scProgramRows (fun vs H Q E h => ?_) (fun cdv A outer s H vs Q E hr h => ?_)
  · obtain ⟨x, dx, rd, sv, kvs, lib, ok, z, rs, rfl, _⟩ := h
    rfl
  obtain ⟨x, dx, D, sv, kvs, lib, ok, z, rs, rfl, hx, hD, hlib, nd, mem, q⟩ := h
  refine ⟨_, (pss_cons (ps_if (PW.pt (pw_or (pt_not (pt_val (pe_callB call_isi (by rfl) B.isinstance (by decide +kernel) (pa_cons (pv 1) (pa_cons (pe_bltn (v := .ty "str") (by rfl) B.str (by decide +kernel) rfl) pa_nil))))) (pw_or1 (pt_cmp (pc_dnotin (hu_of hr) (pv 1) (pe_fld (pv 0) rfl)))))) (pss_one ps_never) pss_nil)
      (pss_one (ps_ret (pe_callTy call_list_of (by rfl) B.list (by decide +kernel) (pa_cons (pe_dget (hu_of hr) (pe_fld (pv 0) rfl) (pv 1) (fun _ _ => rfl)) pa_nil))))), ?_⟩
  obtain ⟨v, hv, xs, ⟨ra, kd, rfl, _, ekd, hra⟩, hxs⟩ := libAt_val hlib nd mem
  have ek : kd = false := ekd
  subst ek
  have dg : DGet H D (.str z) (some (.ref ra)) := .inl ⟨kvs, Sum.inr z, hD, rfl, hv.symm⟩
  refine ⟨_, rfl, _, _, _, _, _, rfl, .ty _, .base (.str z), kit_ty (r := true) (by decide +kernel), true, rfl, iteF ?_⟩
  refine ⟨_, rfl, _, rfl, x, C, dx, _, _, rfl, hx, PC.cl, PC.nR, lk_rows _ _, D, _, rfl, dg, _, rfl, iteF ?_⟩
  refine ⟨_, rfl, x, C, dx, _, _, rfl, hx, PC.cl, PC.nR, lk_rows _ _, _, rfl, D, .ref ra, rfl, dg, ?_⟩
  exact ⟨ra, xs, rfl, .inr (SqT.of hra), fun l nl => q l xs nl hxs⟩
end
end Ft
set_option Elab.async false
set_option linter.all false
set_option maxRecDepth 100000
set_option maxHeartbeats 4000000
namespace Ft
open PySem L2
theorem szL_mem {z : Str} : ∀ ls : List Str, z ∈ ls → z.length ≤ szL ls := by
  intro ls
  induction ls with
  | nil => intro h; cases h
  | cons u ls ih =>
    intro h
    rw [szL_cons]
    rcases List.mem_cons.mp h with e | h
    · rw [e]; omega
    · have := ih h; omega
section
variable {P : PySem.Program} {w : World} {K : PySem.W.Frag} {mg : Str → Option Value} {base : Heap}
abbrev sLText : Stmt := topS 44
theorem scLText : FnScope ["_law_library_here", "_law_found", "_law_name", "_law_line_here"] ["_law_library_here"] (defScope sLText) := ⟨rfl, rfl, rfl, by decide +kernel, rfl, by decide +kernel, by decide +kernel⟩
def spLText : Sp := fun vs H Q _ => ∃ (dl : Addr) (kvs : List (Key × V)) (lib : Lib) (ok : Addr → Prop), vs = [.ref dl] ∧ H dl = some (.dK kvs) ∧ LibAt ok lawK H kvs lib ∧ LibR lib ∧ Lib8 lib ∧ totL lib ≤ 32 ∧
  ∀ H' lib2, Same H H' → lib2.Perm lib → PyProof.Rows.sortedS (lib2.map (·.1)) = true → Q (.str (textL lib2)) H'
theorem ok_LText {f : Addr} {fd : FuncData} {k : Nat} (F : Fun K "_law_text" "_law_text" sLText f fd) (B : Bl mg) (hk : 5 ≤ k) (gLLines : Own P w K mg base 5 "_law_lines" ["_law_rows", "_law_deep"] (spLLines 3)) : FnOk P w K mg base CX0 (k + 1) f fd ["_law_library_here"] spLText := by
  refine F.ok scLText (fun vs H Q E h => ?_) (fun cdv A outer s H vs Q E hr h => ?_)
  · obtain ⟨dl, kvs, lib, ok, rfl, _⟩ := h
    rfl
  obtain ⟨dl, kvs, lib, ok, rfl, hdl, hlib, lr, l8, ht, q⟩ := h
  refine ⟨_, (pss_cons (ps_set (i := 1) scLText.nd rfl (by first | exact Or.inl rfl | exact Or.inr rfl) (pe_lst pa_nil))
      (pss_cons (ps_for PassesOwn.never rfl (pi_list (pe_callB (call_sortedD rfl) (by rfl) B.sorted (by decide +kernel) (pa_cons (pv 0) pa_nil))) (pg_name (i := 2) scLText.nd rfl (by first | exact Or.inl rfl | exact Or.inr rfl)) (pss_one (ps_set (i := 1) scLText.nd rfl (by first | exact Or.inl rfl | exact Or.inr rfl) (pe_op op_cat (pe_op op_cat (pv 1) (pe_lst (pa_cons (pe_op op_add_str pe_str (pv 2)) pa_nil))) (pe_own gLLines (hr.mono (by omega)) (by rfl) (pa_cons (pe_dget (hu_of hr) (pv 0) (pv 2) (fun _ _ => rfl)) (pa_cons pe_int pa_nil)))))))
      (pss_one (ps_ret (pe_join pe_str (pe_lc (own := [("_law_line_here", 3)]) (g := (gName 3)) (tt := tYes) (by rfl) scLText.nd (pi_list (pv 1)) (blkOk_by (own := [("_law_line_here", 3)]) (N := ["_law_library_here", "_law_found", "_law_name", "_law_line_here"]) (sc := defScope sLText) (by decide +kernel)) (fun _ _ _ _ _ => (pg_name (i := 3) scLText.nd rfl (by first | exact Or.inl rfl | exact Or.inr rfl))) (fun _ _ _ _ _ => pts_nil) (fun _ _ _ _ _ => (pe_op op_add_str (pv 3) pe_str)))))))), ?_⟩
  refine ⟨Nat.zero_le _, fun l0 nl0 => ?_⟩
  have s0 : Same H (upd H l0 (.lst [])) := Same.new nl0
  have few := lr.few
  refine ⟨_, rfl, dl, kvs, lib.map (·.1), rfl, .inl (s0 _ _ hdl), libAt_keys hlib, by rw [List.length_map]; omega, fun ys l1 hperm hsort nl1 => ?_⟩
  have s1 : Same (upd H l0 (.lst [])) (upd (upd H l0 (.lst [])) l1 (.lst (ys.map V.str))) := Same.new nl1
  have hl1 : (upd (upd H l0 (.lst [])) l1 (.lst (ys.map V.str))) l1 = some (.lst (ys.map V.str)) := upd_same
  have hl0 : (upd (upd H l0 (.lst [])) l1 (.lst (ys.map V.str))) l0 = some (.lst []) := s1 _ _ upd_same
  have sG : Same H (upd (upd H l0 (.lst [])) l1 (.lst (ys.map V.str))) := Same.trans s0 s1
  generalize hG : upd (upd H l0 _) l1 _ = G at *
  obtain ⟨lib2, e2, p2⟩ := lib_perm hperm lib rfl
  have lr2 := libR_perm p2 lr
  have ht2 : totL lib2 ≤ 32 := by
    unfold totL at ht ⊢
    have := (p2.map fun m : Str × List Row => m.2.length).sum_nat
    omega
  have lylen : ys.length = lib2.length := by rw [← e2, List.length_map]
  refine ⟨l1, rfl, ⟨_, SqL.of hl1⟩, ?_⟩
  refine for_it (walk_list (xs := ys.map V.str)) (fun i σ H' => Same G H' ∧ ∃ l v2 v3, σ = [some (.ref dl), some (.ref l), v2, v3] ∧ H l = none ∧ H' l = some (.lst (((lib2.take i).flatMap modL).map V.str)))
    ⟨Same.refl _, l0, _, _, rfl, nl0, hl0⟩ (fun i σ H' _ ⟨sm, _⟩ => SqL.of (sm _ _ hl1)) ?_ ?_
  · rintro i x' σ H2 H3 hi ⟨s3, l, v2, v3, rfl, nl, hl⟩ ⟨rfl, hx'⟩
    obtain ⟨⟨z, rs⟩, hm, rfl⟩ : ∃ m : Str × List Row, lib2[i]? = some m ∧ x' = .str m.1 := by
      rw [← e2, List.getElem?_map, List.getElem?_map] at hx'
      cases e : lib2[i]? with
      | none => rw [e] at hx'; cases hx'
      | some m => rw [e] at hx'; exact ⟨m, rfl, (Option.some.inj hx').symm⟩
    have s4 : Same H H3 := Same.trans sG s3
    have mem : (z, rs) ∈ lib := p2.mem_iff.mp (List.mem_of_getElem? hm)
    have zw := lr.word _ mem
    have l7 : ("module " : Str).length = 7 := by decide +kernel
    have lz : z.length ≤ 8 := (isW_shy zw).1
    have bg : sizeLine ≥ 16777216 := by decide
    have mo := modL_ok zw (lr.len _ mem) (l8 _ mem)
    have po := modsL_ok lr2 (l8.perm p2) ht2 i
    have lm := szL_len (modL (z, rs))
    have lp := szL_len ((lib2.take i).flatMap modL)
    have lrs : rs.length ≤ 24 := lr.len _ mem
    have mz : szL (modL (z, rs)) ≤ 218448 * rs.length + 80 := mo.sz
    have pz := po.sz
    have lme : (modL (z, rs)).length = (linesB 3 1 rs).length + 1 := rfl
    refine ⟨_, rfl, _, rfl, _, _, rfl, rfl, (by show ("module " : Str).length + z.length ≤ _; omega), (by show 1 ≤ sizeLine; decide), fun t1 nt1 => ?_⟩
    refine ⟨l, t1, _, _, rfl, rfl, Same.new nt1 _ _ hl, upd_same, bigE (by rw [List.length_map]; show _ + 1 ≤ _; omega), fun t2 nt2 => ?_⟩
    have s5 : Same H3 (upd (upd H3 t1 (.lst [.str (("module " : Str) ++ z)])) t2 (.lst (((lib2.take i).flatMap modL).map V.str ++ [.str (("module " : Str) ++ z)]))) := Same.trans (Same.new nt1) (Same.new nt2)
    have ht2 : (upd (upd H3 t1 (.lst [.str (("module " : Str) ++ z)])) t2 (.lst (((lib2.take i).flatMap modL).map V.str ++ [.str (("module " : Str) ++ z)]))) t2 = some (.lst (((lib2.take i).flatMap modL).map V.str ++ [.str (("module " : Str) ++ z)])) := upd_same
    generalize hG5 : upd (upd H3 t1 _) t2 _ = G5 at *
    have sH5 : Same H G5 := Same.trans s4 s5
    obtain ⟨v, hv, hrows⟩ := libAt_val (hlib.to (Keep.fr (Fr.same sH5) fun _ k => k)) lr.nd mem
    have dg : DGet G5 dl (.str z) (some v) := by rw [← hv]; exact DGet.k (k := Sum.inr z) (sH5 _ _ hdl)
    refine ⟨_, rfl, _, rfl, dl, v, rfl, dg, ?_⟩
    refine ⟨v, 1, ok, false, rs, rfl, hrows, lr.len _ mem, l8 _ mem, by omega, by omega, fun G6 l2 s6 nl2 hl2 => ?_⟩
    refine ⟨t2, l2, _, _, rfl, rfl, s6 _ _ ht2, hl2, bigE (by rw [List.length_append, List.length_map, List.length_map]; show _ + 1 + _ ≤ _; omega), fun t3 nt3 => ?_⟩
    refine ⟨Same.trans s3 (Same.trans s5 (Same.trans s6 (Same.new nt3))), t3, _, _, rfl, Same.free (Same.trans sH5 s6) nt3, ?_⟩
    have et : lib2.take (i + 1) = lib2.take i ++ [(z, rs)] := by rw [List.take_add_one, hm]; rfl
    rw [upd_same, et, List.flatMap_append, List.flatMap_cons, List.flatMap_nil, List.append_nil, List.map_append, List.append_assoc]
    rfl
  · rintro σ H2 ⟨s3, l, v2, v3, rfl, nl, hl⟩
    rw [List.length_map, lylen, List.take_length] at hl
    refine ⟨⟨_, rfl⟩, _, rfl, l, rfl, ⟨_, SqL.of hl⟩, fun L nL => ?_⟩
    have mo := modsL_ok lr2 (l8.perm p2) ht2 lib2.length
    rw [List.take_length] at mo
    have mz := mo.sz
    have ml := szL_len (lib2.flatMap modL)
    refine lc_it walk_list (fun i H' => Same H2 H' ∧ H' L = some (.lst ((((lib2.flatMap modL).take i).map fun z => z ++ ("\n" : Str)).map V.str)))
      ⟨Same.new nL, upd_same⟩ (fun i H' _ ⟨s4, _⟩ => SqL.of (s4 _ _ hl)) ?_ ?_
    · rintro i y H3 H4 hi ⟨s4, hL⟩ ⟨rfl, hy⟩
      obtain ⟨z, hz, rfl⟩ : ∃ z, (lib2.flatMap modL)[i]? = some z ∧ y = .str z := by
        rw [List.getElem?_map] at hy
        cases e : (lib2.flatMap modL)[i]? with
        | none => rw [e] at hy; cases hy
        | some z => rw [e] at hy; exact ⟨z, rfl, (Option.some.inj hy).symm⟩
      have et : (lib2.flatMap modL).take (i + 1) = (lib2.flatMap modL).take i ++ [z] := by rw [List.take_add_one, hz]; rfl
      have zl : z.length ≤ szL (lib2.flatMap modL) := szL_mem _ (List.mem_of_getElem? hz)
      have l1 : ("\n" : Str).length = 1 := by decide +kernel
      refine ⟨rfl, _, rfl, _, _, rfl, rfl, bigE (by omega), _, hL, ?_, Same.upN s4 nL, ?_⟩
      · refine big ?_
        rw [List.length_map, List.length_map, List.length_take]
        omega
      · rw [upd_same, et, List.map_append, List.map_append]
        rfl
    · rintro H3 ⟨s4, hL⟩
      rw [List.length_map, List.take_length] at hL
      refine ⟨_, L, _, rfl, rfl, .inl (SqL.of hL), text_sum lr2 (l8.perm p2) ht2, ?_⟩
      exact q _ lib2 (Same.trans sG (Same.trans s3 s4)) p2 (by rw [e2]; exact hsort)
end
end Ft
set_option Elab.async false
set_option linter.all false
set_option maxRecDepth 100000
set_option maxHeartbeats 4000000
set_option Elab.async false
set_option linter.all false
set_option maxRecDepth 100000
set_option maxHeartbeats 4000000
namespace Ft
open PySem PySem.Spec PyProof.Rows L2
/-- as Fun.okX, where a fault's context is told to be None -/
theorem okN {P : PySem.Program} {w : World} {K : PySem.W.Frag} {mg : Str → Option Value} {base : Heap} {x qual : Str} {st : Stmt} {f : Addr} {fd : FuncData} {N ps : List Str} {k : Nat} {sp : Sp} (F : Fun K x qual st f fd) (S : FnScope N ps (defScope st)) (len : ∀ vs H Q E, sp vs H Q E → vs.length = ps.length)
    (hbody : ∀ (cdv : Value) (A : Around) (outer : List Env) (s : Shared) (H : Hp) (vs : List V) (Q : VK) (E : XK), Room k (A.deeper (envOfC qual (defScope st) s.heap.objs.size f cdv)) → sp vs H Q E →
      ∃ t, PSs (cxOf (L2N.CX P w) P w K mg base N qual (defScope st) f cdv A outer s H E) (defBody st) t ∧ t { nx := fun _ H' => Q .non H', rt := Q } (start N vs) H) : FnOk P w K mg base (L2N.CX P w) (k + 1) f fd ps sp := by
  obtain ⟨oc, od, kV, doc, pm, an, cdv, ct, osl, rfl, lk, hcd⟩ := F.ex
  exact fn_of lk hcd S len fun A outer s H vs Q E hr hsp => hbody cdv A outer s H vs Q E hr hsp
/-- an exception of an own class with an __init__ of its own, its context None -/
theorem pmk_oexN {X : Cx} {x : Str} {e : Expr} {es : List Expr} {ta : TA} {p pos : Pos} {C fI : Addr} {k : Nat} {fd : FuncData} {ps : List Str} {sp : Sp} {ds : List Value} {dvs : List V} (T : OexC X.K C) (iC : PySem.W.findIn X.K (.ref C) "__init__" = some (some (.ref fI))) (tI : PySem.W.typeIn X.K (.ref fI) = some (.type "function"))
    (F1 : FnOk X.prog X.w X.K X.mg X.base CX0 k fI fd ps sp) (hr : Room (k + 1) X.A) (hb : Binds X.K fd ps ds) (hd : Vals dvs ds) (hg : Gl X x) (hm : X.mg x = some (.ref C)) (ha : PA X (e :: es) ta)
    (hdb : (x == ("__debug__" : Str)) = false := by decide) (he : starEach (e :: es) X.env = (false, eval e X.env) :: starEach es X.env := by rfl) (hpl : (backTo pos (starEach es X.env)).any (·.1) = false := by rfl) :
    L2N.PMk X (.Call (.Name x p) (e :: es) [] pos) (tMkO C sp dvs ta) := by
  intro pins s σ H Q I h
  obtain ⟨nm, q, N, bs, bm, sn, sub, ab, col, dd, k0, k1, k2, k3, k5, hC, hbm⟩ := T.cls
  refine wpAny_Call_Name_kw (ld_glob I hg hm ?_ hdb)
  refine PySem.W.callWith_K (h₀ := X.base) I.ok.mod.kin T.kC (thn (ha.run pos pins s σ H _ I h) fun us s1 ⟨vs, H1, I1, r1, hz, q1⟩ => ⟨I1.kIn, ?_⟩) he hpl
  show wpAny _ _ (call (.ref C) us) _ _ _
  obtain ⟨hp, g, dr, tk, os⟩ := s1
  have hsz : hp.objs.size ≤ hp.objs.size + 1 := Nat.le_succ _
  have hn : H1 (hp.objs.size + 1) = none := I1.hok.fresh hsz
  have hq := q1 (hp.objs.size + 1) hn
  have kk : ∀ b o, hp.get? b = some o → ((hp.push (PySem.W.kdv_tup us)).push (PySem.HandSPX.excO C hp.objs.size)).get? b = some o := fun b o e => Heap.get?_push_of_some _ (Heap.get?_push_of_some _ e)
  have hget : ((hp.push (PySem.W.kdv_tup us)).push (PySem.HandSPX.excO C hp.objs.size)).get? (hp.objs.size + 1) = some (PySem.HandSPX.excO C hp.objs.size) := by heap_get
  have I2 : Inv X pins σ (upd H1 (hp.objs.size + 1) (exo (hp.objs.size + 1) C none)) ⟨(hp.push (PySem.W.kdv_tup us)).push (PySem.HandSPX.excO C hp.objs.size), g, dr, tk, os⟩ :=
    I1.laid (t' := tk) (a := hp.objs.size + 1) (o := exo (hp.objs.size + 1) C none) (h' := (hp.push (PySem.W.kdv_tup us)).push (PySem.HandSPX.excO C hp.objs.size)) kk hsz (exo_ok hget)
  have r2 : Vals (V.ref (hp.objs.size + 1) :: (vs ++ dvs)) (Value.ref (hp.objs.size + 1) :: (us ++ ds)) := .cons rfl (r1.append hd)
  have hl : (Value.ref (hp.objs.size + 1) :: us ++ ds).length = ps.length := by
    have e := r2.length
    rw [F1.len _ _ _ _ hq] at e
    exact e.symm
  have hus : us.length ≤ sizeLine := by
    rw [← Paired.length r1, sizeLine_eq]
    omega
  refine wpAny_call (PySem.HandSPX.call_own F.excBase_ValueError (fun Y => PySem.HandSPX.refsVE_contains Y bm hbm) (I1.kIn _ _ hC) (PySem.W.looks_findIn I1.kIn iC) (fun self => PySem.W.bind_fn I1.kIn self tI) hus
    (codeAny_mono (F1.run _ X.stack _ _ ⟨Value.ref (hp.objs.size + 1) :: us, []⟩ (Value.ref (hp.objs.size + 1) :: (us ++ ds)) _ _ (fun _ _ _ => False) (hr.make C us []) (I2.env0.make C us []) (hb _ (Value.ref (hp.objs.size + 1) :: us) I2.kIn hl) r2 hq) fun r s' hq' => ?_))
  cases r with
  | error er => exact pass0 pins σ _ _ er s' I2 hq'
  | ok fl =>
    cases fl with
    | ret u =>
      obtain ⟨v, H2, os2, bare2, un2, hok2, rv, ev, d, fs, ea, ed, hd1, q2⟩ := hq'
      subst ev
      obtain ⟨h2, g2, d2, t2, os'⟩ := s'
      obtain ⟨t0, G, J, kG, ge, hoe, na⟩ := mk_end0 (d2 := d2) (t2 := t2) I1 hsz kk un2 hok2 os2 bare2 ea ed hd1
      exact ⟨rv, ⟨_, _, _, ⟨G, g2, d2, t2, os'⟩, _, .ref C, some d, rfl, J, kG, ge, hoe, ⟨rfl, rfl, fun vs e => by cases e; rfl⟩, rfl, rfl, na, rfl, bare2, raises_own T.exC T.tyC, q2⟩⟩
    | next => exact False.elim hq'
    | brk => exact False.elim hq'
    | cont => exact False.elim hq'
/-- a method that keeps its promise, or raises as it says -/
structure OwnX (P : PySem.Program) (w : World) (K : PySem.W.Frag) (mg : Str → Option Value) (base : Heap) (k : Nat) (C : Addr) (m : Str) (ps : List Str) (sp : Sp) : Prop where
  ex : ∃ (f : Addr) (fd : FuncData), Cls K C ∧ Meth K C m f ∧ FnOk P w K mg base (L2N.CX P w) k f fd ps sp ∧ Binds K fd ps []
theorem OwnX.mono {P : PySem.Program} {w : World} {K : PySem.W.Frag} {mg : Str → Option Value} {base : Heap} {j k : Nat} {C : Addr} {m : Str} {ps : List Str} {sp : Sp} (G : OwnX P w K mg base j C m ps sp) (h : j ≤ k) : OwnX P w K mg base k C m ps sp := by
  obtain ⟨f, fd, c, hm, F, b⟩ := G.ex
  exact ⟨f, fd, c, hm, F.mono h, b⟩
section
variable {X : Cx} {K : PySem.W.Frag} {o e : Expr} {es : List Expr} {to ta : TE} {t : TA} {f name : Str} {pos apos cpos : Pos} {T id : String} {r : V → List V → Hp → VK → Prop}
def rLenS (K : PySem.W.Frag) : List V → Hp → VK → Prop := fun xs H Q => ∃ p ys, xs = [.ref p] ∧ (SqL K H p ys ∨ SqT K H p ys) ∧ Q (.int ys.length) H
end
end Ft
set_option Elab.async false
set_option linter.all false
set_option maxRecDepth 100000
set_option maxHeartbeats 2000000
namespace Ft
open PySem PySem.Spec L2
/-- a clause: its class, the slot of its name, its suite's reading -/
structure Cls1 where
  c : Value
  i : Nat
  ts : Addr → Value → Option Addr → TS
/-- the ends of a suite, its name gone -/
def _root_.L2.Ends.drop (D : Ends) (i : Nat) : Ends := ⟨fun σ H => D.nx (σ.set i none) H, D.rt, fun σ H => D.bk (σ.set i none) H, fun σ H => D.ct (σ.set i none) H⟩
def wAsM (K : PySem.W.Frag) (Wo : WX) (D : Ends) : List Cls1 → WX
  | [], cls, d, σ, H => Wo cls d σ H
  | p :: r, cls, d, σ, H => (PySem.W.exmOne K cls p.c = some true ∧ ∀ a, H a = none → p.ts a cls d (D.drop p.i) (σ.set p.i (some (.ref a))) H) ∨ (PySem.W.exmOne K cls p.c = some false ∧ wAsM K Wo D r cls d σ H)
section
variable {X : Cx} {pins : List (Addr × Obj)} {σ : L2.St} {H : Hp} {s : Shared} {a : Addr} {cls : Value} {d : Option Addr} {B : Heap}
/-- an exception that has been caught: what holds of the state, and of the states that its notes lead to -/
structure Grd (X : Cx) (pins : List (Addr × Obj)) (σ : L2.St) (H : Hp) (a : Addr) (cls : Value) (d : Option Addr) (B : Heap) (s : Shared) : Prop where
  fly : HandSPX.FlyingZ B (X.env :: X.outer) a (Zc cls d) s.heap
  new : H a = none
  mv : ∀ g, HandSPX.FlyingZ B (X.env :: X.outer) a (Zc cls d) g → s.heap.UpToSlots g → Inv X pins σ H { s with heap := g }
  out : ∀ (W : WX) g, HandSPX.HeldZ B (X.env :: X.outer) a (Zc cls d) X.env.locals g → s.heap.UpToSlots g → W cls d σ H → XE X W (.ref a) { s with heap := g }
theorem Grd.at_ (G : Grd X pins σ H a cls d B s) : Inv X pins σ H s := G.mv _ G.fly (Heap.UpToSlots.refl _)
theorem Grd.to (G : Grd X pins σ H a cls d B s) {g : Heap} (f : HandSPX.FlyingZ B (X.env :: X.outer) a (Zc cls d) g) (u : s.heap.UpToSlots g) : Grd X pins σ H a cls d B { s with heap := g } :=
  ⟨f, G.new, fun g' f' u' => G.mv g' f' (u.trans u'), fun W g' f' u' => G.out W g' f' (u.trans u')⟩
/-- the context of a clause's suite -/
theorem Grd.suite (hf : X.env.frame = some X.env.locals) (G : Grd X pins σ H a cls d B s) :
    ∃ o, s.heap.get? a = some o ∧ Zc cls d o ∧ (∃ us, o.data = .fields us) ∧ Inv (X.suite a ((a, o) :: (X.pn ++ pins))) [] σ H s := by
  obtain ⟨o, us, g, z, h⟩ := G.fly.there
  have far : ∀ v ∈ X.env :: X.outer, v.frame ≠ some a := fun v hv e => by
    have := G.fly.2.2.1.mem (List.mem_filterMap.mpr ⟨v, hv, e⟩)
    rw [g] at this
    obtain ⟨_, _, h1, h2⟩ := this
    exact h2 us (by cases h1; exact h)
  exact ⟨o, g, z, ⟨us, h⟩, G.at_.suite g h G.new (fun e => far _ (List.mem_cons_self ..) (e ▸ hf)) fun m => match List.mem_filterMap.mp m with
    | ⟨v, hv, e⟩ => far v (List.mem_cons_of_mem _ hv) e⟩
/-- no clause took it -/
theorem Grd.pass {W : WX} {Q : Flow → Shared → Prop} (hf : X.env.frame = some X.env.locals) (tk : Takes X W) (G : Grd X pins σ H a cls d B s) (w : W cls d σ H) :
    wpAny (model X.prog X.w) X.A (handleBy (.ref a) X.env []) Q X.xe s := by
  have last : wpAny (model X.prog X.w) X.A (setFlight (.ref a) X.env.frame) (fun _ z => wpAny (model X.prog X.w) X.A (throw (.ref a) : Sem Flow) Q X.xe z) X.xe s :=
    hf ▸ HandSPX.setFlight_upZ G.fly fun g f u => wpAny_throw (tk _ _ (G.out W g f u w))
  obtain ⟨_, _, _, o, us, T, _, _, g1, _, g2, g3, _⟩ := G.fly
  refine wpAny_handleBy_nil ?_
  unfold PySem.passOn
  refine wpAny_bind (wpAny_field g1 g2 g3 ?_)
  rw [if_neg (by simp)]
  first
    | exact wpAny_bind (wpAny_pure (wpAny_bind last))
    | exact wpAny_bind last
/-- a suite ends as the try does, its name gone -/
theorem flow_drop {i : Nat} {n : Str} {pos : Pos} {D : Ends} {fl : Flow} {pn : List (Addr × Obj)} {q : Addr × Obj} {s1 : Shared} (ok : X.Ok) (hN : X.N.Nodup) (hi : X.N[i]? = some n) (hl : X.env.kindOf n = some .local)
    (h : SP (X.suite a (q :: (X.pn ++ pins))) pn (D.drop i) fl s1) : wpAny (model X.prog X.w) X.A (do bindName X.env n .none; unbindBehindTheSuite X.env n pos) (fun _ z => SP X pins D fl z) X.xe s1 := by
  cases fl with
  | ret u => exact match h with | ⟨v, σ2, H2, J, r, e⟩ => gone_ok (J.unsuite ok) hN hi hl fun z Jz => ⟨v, _, H2, Jz, r, e⟩
  | _ => exact match h with | ⟨σ2, H2, J, e⟩ => gone_ok (J.unsuite ok) hN hi hl fun z Jz => ⟨_, H2, Jz, e⟩
/-- one clause is asked -/
theorem Grd.ask {D : Ends} {x n : Str} {p : Cls1} {b₀ : Stmt} {su : List Stmt} {np pos : Pos} {hds : List ExceptHandler} {W : WX} (hf : X.env.frame = some X.env.locals) (hN : X.N.Nodup) (hi : X.N[p.i]? = some n) (hl : X.env.kindOf n = some .local) (hc : Names X x p.c)
    (hsu : ∀ (o : Obj) (pn : List (Addr × Obj)), Zc cls d o → (∃ us, o.data = .fields us) → PSs (X.suite a ((a, o) :: pn)) (b₀ :: su) (p.ts a cls d)) (G : Grd X pins σ H a cls d B s)
    (miss : W cls d σ H → wpAny (model X.prog X.w) X.A (handleBy (.ref a) X.env hds) (SP X pins D) X.xe s)
    (w : (PySem.W.exmOne X.K cls p.c = some true ∧ ∀ a, H a = none → p.ts a cls d (D.drop p.i) (σ.set p.i (some (.ref a))) H) ∨ (PySem.W.exmOne X.K cls p.c = some false ∧ W cls d σ H)) :
    wpAny (model X.prog X.w) X.A (handleBy (.ref a) X.env (.ExceptHandler (some (.Name x np)) (some n) (b₀ :: su) pos :: hds)) (SP X pins D) X.xe s := by
  obtain ⟨o, g, z, _, S⟩ := G.suite hf
  have ty : PySem.W.Looks (model X.prog X.w) s.heap (typeOf (.ref a)) cls := fun _ _ _ _ k q => wpAny_typeOf_ref (k _ _ g) (z.1 ▸ q)
  refine wpAny_handleBy_cons (codeAny_handlers_test ?_) (fun q => nomatch q)
  have name : ∀ {Q E : Value → Shared → Prop}, Q p.c s → wpAny (model X.prog X.w) (X.A.mark (some (.ref a))) (eval (.Name x np) X.env) Q E s := fun q =>
    match hc with
    | ⟨h1, h2, .inl m⟩ => ld_glob (X := X.suite a ((a, o) :: (X.pn ++ pins))) S h1 m q h2
    | ⟨h1, h2, .inr ⟨m, v, y⟩⟩ => ld_blt (X := X.suite a ((a, o) :: (X.pn ++ pins))) S h1 m v q y h2
  rcases w with ⟨e, w⟩ | ⟨e, w⟩
  · refine name ((PySem.W.exm_one (M := model X.prog X.w) G.at_.kIn ty e).here (codeAny_handlers_suite_as (HandSPX.lands_againZ G.fly fun g2 f2 u2 => ?_)))
    have G2 := G.to f2 u2
    obtain ⟨o2, _, z2, d2, S2⟩ := G2.suite hf
    exact store_ok (X := X.suite a ((a, o2) :: (X.pn ++ pins))) (v := .ref a) S2 hN hi (.inl hl) rfl (fun t J => wpAny_mono ((hsu o2 (X.pn ++ pins) z2 d2).run [] t _ H _ J (w a G.new)) (fun fl t2 r => flow_drop G.at_.ok hN hi hl r) fun _ _ f => f.elim) (.inr hl)
  · exact name ((PySem.W.exm_one (M := model X.prog X.w) G.at_.kIn ty e).here (miss w))
end
/-- the clauses of a try, with their readings -/
inductive HdsAs (X : Cx) : List ExceptHandler → List Cls1 → Prop
  | nil : HdsAs X [] []
  | cons {x n : Str} {c : Value} {i : Nat} {ts : Addr → Value → Option Addr → TS} {b₀ : Stmt} {su : List Stmt} {np pos : Pos} {hds : List ExceptHandler} {l : List Cls1} (hi : X.N[i]? = some n) (hl : X.env.kindOf n = some .local) (hc : Names X x c)
      (hsu : ∀ (a : Addr) (o : Obj) (cls : Value) (d : Option Addr) (pn : List (Addr × Obj)), Zc cls d o → (∃ us, o.data = .fields us) → PSs (X.suite a ((a, o) :: pn)) (b₀ :: su) (ts a cls d)) (r : HdsAs X hds l) : HdsAs X (.ExceptHandler (some (.Name x np)) (some n) (b₀ :: su) pos :: hds) (⟨c, i, ts⟩ :: l)
section
variable {X : Cx} {pins : List (Addr × Obj)} {σ : L2.St} {H : Hp} {s : Shared} {a : Addr} {cls : Value} {d : Option Addr} {B : Heap} {W : WX} {D : Ends}
theorem HdsAs.go (hf : X.env.frame = some X.env.locals) (hN : X.N.Nodup) (tk : Takes X W) (G : Grd X pins σ H a cls d B s) {hds : List ExceptHandler} {l : List Cls1} (hh : HdsAs X hds l) (w : wAsM X.K W D l cls d σ H) :
    wpAny (model X.prog X.w) X.A (handleBy (.ref a) X.env hds) (SP X pins D) X.xe s := by
  induction hh with
  | nil => exact G.pass hf tk w
  | @cons x n c i ts _ _ _ _ _ _ hi hl hc hsu _ ih => exact G.ask (p := ⟨c, i, ts⟩) hf hN hi hl hc (fun o pn => hsu a o cls d pn) ih w
/-- thrown by the body, noted, on the ground -/
theorem ground {xe : Value → Shared → Prop} {u : Value} {Q : Shared → Prop} (hs : X.stack = X.env :: X.outer) (hf : X.env.frame = some X.env.locals) (ok : X.Ok) (x : XE (X.tr (X.pn ++ pins) xe) W u s)
    (q : ∀ a cls d σ H B g, u = .ref a → Grd X pins σ H a cls d B { s with heap := g } → W cls d σ H → Q { s with heap := g }) :
    wpAny (model X.prog X.w) X.A (noteFrame u X.env) (fun _ s2 => wpAny (model X.prog X.w) X.A (setFlight u none) (fun _ s3 => Q s3) X.xe s2) X.xe s := by
  obtain ⟨a, B, s0, _, σ, H, cls, d, rfl, J, nb, up, sk, na, os, ag, w⟩ := x
  have J0 : Inv X pins σ H s0 := J.ofTry ok
  refine Sky.land Zc.steady (ok.frames.trans (congrArg some hs)) hf (hs ▸ sk) fun g f u => q a cls d σ H B g rfl ⟨f, na, fun g2 f2 u2 => J0.landed nb f2.1 (up.trans (u.trans u2)) os ag, fun W2 g2 f2 u2 w2 => ?_⟩ w
  exact ⟨a, B, s0, pins, σ, H, cls, d, rfl, J0, nb, (up.trans u).trans u2, .inr (.inr (hs.symm ▸ f2)), na, os, ag, w2⟩
theorem ps_try_asM {body : List Stmt} {h₀ : ExceptHandler} {hds : List ExceptHandler} {l : List Cls1} {pos : Pos} {tb : WX → TS} (hs : X.stack = X.env :: X.outer) (hf : X.env.frame = some X.env.locals) (hN : X.N.Nodup) (tk : Takes X W)
    (hb : ∀ (W : WX) (pn : List (Addr × Obj)) (xe : Value → Shared → Prop), Takes (X.tr pn xe) W → PassesOwn (model X.prog X.w) X.A X.env xe → PSs (X.tr pn xe) body (tb W)) (hh : HdsAs X (h₀ :: hds) l) :
    PS X (.Try body (h₀ :: hds) [] [] pos) (fun D σ H => tb (wAsM X.K W D l) D σ H) :=
  ⟨fun pins s σ H D J h => wpAny_Try_except (wpAny_mono ((hb (wAsM X.K W D l) (X.pn ++ pins) _ (fun u t x => ground (Q := fun t => wpAny (model X.prog X.w) X.A (handleBy u X.env (h₀ :: hds)) (SP X pins D) X.xe t) hs hf J.ok x fun a cls d σ H B g e G w => by
      subst e
      exact hh.go hf hN tk G w) PassesOwn.looking).run [] s σ H D (J.toTry _) h) (fun fl t r => by
    cases fl with
    | next => exact match r with | ⟨σ2, H2, J2, e⟩ => wpAny_execs_nil ⟨σ2, H2, J2.ofTry J.ok, e⟩
    | ret u => exact match r with | ⟨v, σ2, H2, J2, k, e⟩ => ⟨v, σ2, H2, J2.ofTry J.ok, k, e⟩
    | _ => exact match r with | ⟨σ2, H2, J2, e⟩ => ⟨σ2, H2, J2.ofTry J.ok, e⟩) fun _ _ e => e)⟩
end
/-- what leaves a def with its context told leaves it without, too -/
theorem cx_of_N {P : Program} {w : World} {outer : List Env} {H : Hp} {s : Shared} {E : XK} {u : Value} {s' : Shared} (c : L2N.CX P w outer H s E u s') : L2.CX P w outer H s E u s' := by
  obtain ⟨a, B, H', cls, d, e, ⟨f1, f2, f3, oe, vs, T, oT, ts, g1, g2, g3⟩, r⟩ := c
  exact ⟨a, B, H', cls, d, e, ⟨f1, f2, f3, oe, vs, T, oT, ts, g1, g2.zc, g3⟩, r⟩
theorem fn_N {P : Program} {w : World} {K : PySem.W.Frag} {mg : Str → Option Value} {base : Heap} {k : Nat} {f : Addr} {fd : FuncData} {ps : List Str} {sp : Sp} (h : FnOk P w K mg base (L2N.CX P w) k f fd ps sp) : FnOk P w K mg base (L2.CX P w) k f fd ps sp :=
  ⟨h.len, fun A outer s H args us vs Q E hr e0 hb r hs => codeAny_mono (h.run A outer s H args us vs Q E hr e0 hb r hs) fun rr s' hq => by
    cases rr with
    | error e => exact cx_of_N hq
    | ok fl => cases fl <;> exact hq⟩
end Ft
set_option Elab.async false
set_option linter.all false
set_option maxRecDepth 100000
set_option maxHeartbeats 4000000
namespace Ft
open PySem L2
def spErrInit (C : Addr) (n : Str) : Sp := fun vs H Q _ => ∃ (a : Addr) (v : V), vs = [.ref a, v] ∧ H a = some (exo a C none) ∧
  ∀ dx, H dx = none → dx ≠ a → Q .non (upd (upd H dx (exd dx [(n, v)])) a (exo a C (some dx)))
structure ErrT (P : PySem.Program) (w : World) (K : PySem.W.Frag) (mg : Str → Option Value) (base : Heap) (x n : Str) (ps : List Str) (C : Addr) : Prop where
  o : OexC K C
  g : mg x = some (.ref C)
  nF : PySem.W.findIn K (.ref C) n = some none
  ex : ∃ (f : Addr) (fd : FuncData), PySem.W.findIn K (.ref C) "__init__" = some (some (.ref f)) ∧ PySem.W.typeIn K (.ref f) = some (.type "function") ∧ FnOk P w K mg base CX0 1 f fd ps (spErrInit C n) ∧ Binds K fd ps []
  xf : XfC K C
section
variable {P : PySem.Program} {w : World} {K : PySem.W.Frag} {mg : Str → Option Value} {base : Heap}
abbrev sBadWordInit : Stmt := inClass (topS 5) 0
theorem scBadWordInit : FnScope ["self", "word"] ["self", "word"] (defScope sBadWordInit) := ⟨rfl, rfl, rfl, by decide +kernel, rfl, by decide +kernel, by decide +kernel⟩
theorem ok_BadWordInit {f C : Addr} {fd : FuncData} {k : Nat} (F : Fun K "__init__" "BadWord.__init__" sBadWordInit f fd) (o : OexC K C) (nF : PySem.W.findIn K (.ref C) "word" = some none) : FnOk P w K mg base CX0 (k + 1) f fd ["self", "word"] (spErrInit C "word") := by
  refine F.ok scBadWordInit (fun vs H Q E h => ?_) (fun cdv A outer s H vs Q E hr h => ?_)
  · obtain ⟨a, f, rfl, _⟩ := h
    rfl
  obtain ⟨a, v, rfl, ha, q⟩ := h
  refine ⟨_, pss_one (ps_ost (pv 0) (pv 1)), ?_⟩
  exact ⟨_, rfl, _, rfl, a, C, rfl, o, nF, .inl ⟨ha, fun dx ndx dxa => q dx ndx dxa⟩⟩
abbrev sBadTextInit : Stmt := inClass (topS 4) 0
theorem scBadTextInit : FnScope ["self", "line"] ["self", "line"] (defScope sBadTextInit) := ⟨rfl, rfl, rfl, by decide +kernel, rfl, by decide +kernel, by decide +kernel⟩
theorem ok_BadTextInit {f C : Addr} {fd : FuncData} {k : Nat} (F : Fun K "__init__" "BadText.__init__" sBadTextInit f fd) (o : OexC K C) (nF : PySem.W.findIn K (.ref C) "line" = some none) : FnOk P w K mg base CX0 (k + 1) f fd ["self", "line"] (spErrInit C "line") := by
  refine F.ok scBadTextInit (fun vs H Q E h => ?_) (fun cdv A outer s H vs Q E hr h => ?_)
  · obtain ⟨a, f, rfl, _⟩ := h
    rfl
  obtain ⟨a, v, rfl, ha, q⟩ := h
  refine ⟨_, pss_one (ps_ost (pv 0) (pv 1)), ?_⟩
  exact ⟨_, rfl, _, rfl, a, C, rfl, o, nF, .inl ⟨ha, fun dx ndx dxa => q dx ndx dxa⟩⟩
end
section
variable {X : Cx}
theorem ps_raiseE {x n : Str} {psI : List Str} {C : Addr} {a : Expr} {ta : TA} {W : WX} {p pos pos2 : Pos} (hc : X.calm = true) (T : ErrT X.prog X.w X.K X.mg X.base x n psI C) (hr : Room 2 X.A) (tk : L2N.Takes X W) (ha : PA X [a] ta) (hg : Gl X x := by rfl) (hdb : (x == ("__debug__" : Str)) = false := by decide)
    (he : starEach (a :: []) X.env = (false, eval a X.env) :: starEach [] X.env := by rfl) (hpl : (backTo pos (starEach [] X.env)).any (·.1) = false := by rfl) :
    PS X (.Raise (some (.Call (.Name x p) [a] [] pos)) none pos2) (fun _ σ H => tMkO C (spErrInit C n) [] ta σ H fun cls d H' => W cls d σ H') := by
  obtain ⟨f, fd, i1, i2, F, bn⟩ := T.ex
  exact L2N.ps_raise (pos := pos2) hc tk (pmk_oexN (p := p) (pos := pos) T.o i1 i2 F hr bn .nil hg T.g ha hdb he hpl)
theorem mkE {C : Addr} {n : Str} {H1 : Hp} {Q : XK} {f : V} (q : ∀ d, H1 d = none → Q (.ref C) (some d) (upd H1 d (.xd [(n, f)]))) :
    [f].length ≤ 1000 ∧ ∀ a, H1 a = none → spErrInit C n (.ref a :: ([f] ++ [])) (upd H1 a (exo a C none))
      (fun v H2 => v = .non ∧ ∃ (d : Addr) (fs : List (Str × V)), H2 a = some (exo a C (some d)) ∧ H2 d = some (exd d fs) ∧ H1 d = none ∧ Q (.ref C) (some d) (upd (del H2 a) d (.xd fs))) (fun _ _ _ => False) := by
  refine ⟨by show 1 ≤ 1000; decide, fun a na => ⟨a, f, rfl, upd_same, fun dx ndx dxa => ⟨rfl, dx, [(n, f)], upd_same, ?_, ?_, ?_⟩⟩⟩
  · rw [upd_ne dxa, upd_same]
  · rw [upd_ne dxa] at ndx; exact ndx
  · rw [upd_ne dxa] at ndx
    have e : upd (del (upd (upd (upd H1 a (exo a C none)) dx (exd dx [(n, f)])) a (exo a C (some dx))) a) dx (.xd [(n, f)]) = upd H1 dx (.xd [(n, f)]) := by
      funext b
      by_cases c1 : b = dx
      · rw [c1, upd_same, upd_same]
      · rw [upd_ne c1, upd_ne c1]
        by_cases c2 : b = a
        · rw [c2, del_same, na]
        · rw [del_ne c2, upd_ne c2, upd_ne c1, upd_ne c2]
    rw [e]
    exact q dx ndx
end
def spErr2Init (C : Addr) (n m : Str) : Sp := fun vs H Q _ => ∃ (a : Addr) (f st : V), vs = [.ref a, f, st] ∧ H a = some (exo a C none) ∧
  ∀ dx, H dx = none → dx ≠ a → Q .non (upd (upd (upd H dx (exd dx [(n, f)])) a (exo a C (some dx))) dx (exd dx [(m, st), (n, f)]))
structure ErrP (P : PySem.Program) (w : World) (K : PySem.W.Frag) (mg : Str → Option Value) (base : Heap) (C : Addr) : Prop where
  o : OexC K C
  g : mg "BadProgram" = some (.ref C)
  nM : PySem.W.findIn K (.ref C) "module" = some none
  nP : PySem.W.findIn K (.ref C) "path" = some none
  ex : ∃ (f : Addr) (fd : FuncData), PySem.W.findIn K (.ref C) "__init__" = some (some (.ref f)) ∧ PySem.W.typeIn K (.ref f) = some (.type "function") ∧ FnOk P w K mg base CX0 1 f fd ["self", "module", "path"] (spErr2Init C "module" "path") ∧ Binds K fd ["self", "module", "path"] []
  xf : XfC K C
section
variable {P : PySem.Program} {w : World} {K : PySem.W.Frag} {mg : Str → Option Value} {base : Heap}
abbrev sBadProgramInit : Stmt := inClass (topS 3) 0
theorem scBadProgramInit : FnScope ["self", "module", "path"] ["self", "module", "path"] (defScope sBadProgramInit) := ⟨rfl, rfl, rfl, by decide +kernel, rfl, by decide +kernel, by decide +kernel⟩
theorem ok_BadProgramInit {f C : Addr} {fd : FuncData} {k : Nat} (F : Fun K "__init__" "BadProgram.__init__" sBadProgramInit f fd) (o : OexC K C) (nM : PySem.W.findIn K (.ref C) "module" = some none) (nP : PySem.W.findIn K (.ref C) "path" = some none) : FnOk P w K mg base CX0 (k + 1) f fd ["self", "module", "path"] (spErr2Init C "module" "path") := by
  refine F.ok scBadProgramInit (fun vs H Q E h => ?_) (fun cdv A outer s H vs Q E hr h => ?_)
  · obtain ⟨a, f, st, rfl, _⟩ := h
    rfl
  obtain ⟨a, f, st, rfl, ha, q⟩ := h
  refine ⟨_, pss_cons (ps_ost (pv 0) (pv 1)) (pss_one (ps_ost (pv 0) (pv 2))), ?_⟩
  refine ⟨_, rfl, _, rfl, a, C, rfl, o, nM, .inl ⟨ha, fun dx ndx dxa => ?_⟩⟩
  refine ⟨_, rfl, _, rfl, a, C, rfl, o, nP, .inr ⟨dx, [("module", f)], upd_same, by rw [upd_ne dxa]; exact upd_same, by simp, ?_⟩⟩
  exact q dx ndx dxa
end
section
variable {X : Cx}
theorem ps_raiseP {C : Addr} {a b : Expr} {ta : TA} {W : WX} {p pos pos2 : Pos} (hc : X.calm = true) (T : ErrP X.prog X.w X.K X.mg X.base C) (hr : Room 2 X.A) (tk : L2N.Takes X W) (ha : PA X [a, b] ta) (hg : Gl X "BadProgram" := by rfl)
    (he : starEach (a :: [b]) X.env = (false, eval a X.env) :: starEach [b] X.env := by rfl) (hpl : (backTo pos (starEach [b] X.env)).any (·.1) = false := by rfl) :
    PS X (.Raise (some (.Call (.Name "BadProgram" p) [a, b] [] pos)) none pos2) (fun _ σ H => tMkO C (spErr2Init C "module" "path") [] ta σ H fun cls d H' => W cls d σ H') := by
  obtain ⟨f, fd, i1, i2, F, bn⟩ := T.ex
  exact L2N.ps_raise (pos := pos2) hc tk (pmk_oexN (p := p) (pos := pos) T.o i1 i2 F hr bn .nil hg T.g ha (by decide) he hpl)
theorem mkE2 {C : Addr} {n m : Str} {H1 : Hp} {Q : XK} {f st : V} (q : ∀ d, H1 d = none → Q (.ref C) (some d) (upd H1 d (.xd [(m, st), (n, f)]))) :
    [f, st].length ≤ 1000 ∧ ∀ a, H1 a = none → spErr2Init C n m (.ref a :: ([f, st] ++ [])) (upd H1 a (exo a C none))
      (fun v H2 => v = .non ∧ ∃ (d : Addr) (fs : List (Str × V)), H2 a = some (exo a C (some d)) ∧ H2 d = some (exd d fs) ∧ H1 d = none ∧ Q (.ref C) (some d) (upd (del H2 a) d (.xd fs))) (fun _ _ _ => False) := by
  refine ⟨by show 2 ≤ 1000; decide, fun a na => ⟨a, f, st, rfl, upd_same, fun dx ndx dxa => ⟨rfl, dx, [(m, st), (n, f)], ?_, upd_same, ?_, ?_⟩⟩⟩
  · rw [upd_ne dxa.symm, upd_same]
  · rw [upd_ne dxa] at ndx; exact ndx
  · rw [upd_ne dxa] at ndx
    have e : upd (del (upd (upd (upd (upd H1 a (exo a C none)) dx (exd dx [(n, f)])) a (exo a C (some dx))) dx (exd dx [(m, st), (n, f)])) a) dx (.xd [(m, st), (n, f)]) = upd H1 dx (.xd [(m, st), (n, f)]) := by
      funext b
      by_cases c1 : b = dx
      · rw [c1, upd_same, upd_same]
      · rw [upd_ne c1, upd_ne c1]
        by_cases c2 : b = a
        · rw [c2, del_same, na]
        · rw [del_ne c2, upd_ne c1, upd_ne c2, upd_ne c1, upd_ne c2]
    rw [e]
    exact q dx ndx
end
end Ft
set_option Elab.async false
set_option linter.all false
set_option maxRecDepth 100000
set_option maxHeartbeats 4000000
set_option pp.maxSteps 1500
namespace Ft
open PySem PySem.Spec PyProof.Rows L2
/-- Fun.ok where the def's code object is known -/
theorem Fun.okC {P : PySem.Program} {w : World} {K : PySem.W.Frag} {mg : Str → Option Value} {base : Heap} {x qual : Str} {st : Stmt} {f c : Addr} {fd : FuncData} {N ps : List Str} {k : Nat} {sp : Sp} (F : Fun K x qual st f fd) (hc : fd.code = .ref c) (S : FnScope N ps (defScope st)) (len : ∀ vs H Q E, sp vs H Q E → vs.length = ps.length)
    (hbody : ∀ (A : Around) (outer : List Env) (s : Shared) (H : Hp) (vs : List V) (Q : VK) (E : XK), Room k (A.deeper (envOfC qual (defScope st) s.heap.objs.size f (.ref c))) → sp vs H Q E →
      ∃ t, PSs (cxOf CX0 P w K mg base N qual (defScope st) f (.ref c) A outer s H E).nox (defBody st) t ∧ t { nx := fun _ H' => Q .non H', rt := Q } (start N vs) H) : FnOk P w K mg base CX0 (k + 1) f fd ps sp := by
  obtain ⟨oc, od, kV, doc, pm, an, cdv, ct, osl, rfl, lk, hcd⟩ := F.ex
  obtain rfl : cdv = .ref c := hc
  refine fn_of lk hcd S len fun A outer s H vs Q E hr hsp => ?_
  obtain ⟨t, h, q⟩ := hbody A outer s H vs Q E hr hsp
  exact ⟨t, h.nox, q⟩
/-- the wish need hold only at slots of the right length -/
theorem takes_len {X : Cx} {W : WX} (tk : Takes X W) : Takes X (fun cls d σ H => σ.length = X.N.length → W cls d σ H) := fun u s' ⟨a, B, sI, pins, σ, H, cls, d, e, I, nb, up, sky, na, os, ag, w⟩ =>
  tk u s' ⟨a, B, sI, pins, σ, H, cls, d, e, I, nb, up, sky, na, os, ag, w I.len⟩
/-- x(), x the first parameter, a lambda got -/
theorem pe_actE {Z : Cx} {a q : Str} {f c' : Addr} {tl : XK → Hp → VK → Prop} {pn : List (Addr × Obj)} {xe : Value → Shared → Prop} {W : WX} {p1 p2 : Pos}
    (act : ∀ (W : WX) (pn : List (Addr × Obj)) (xe : Value → Shared → Prop) (E : XK) (p1 p2 : Pos), Takes (Z.tr pn xe) W → (∀ cls d σ' H', E cls d H' → W cls d σ' H') →
      PE (Z.tr pn xe) (.Call (.Name a p1) [] [] p2) (fun σZ HZ Q => σZ[0]? = some (some (.ref f)) ∧ HZ c' = some (LamX.CodeO c' q) ∧ tl E HZ Q)) (tk : Takes (Z.tr pn xe) W) :
    PE (Z.tr pn xe) (.Call (.Name a p1) [] [] p2) (fun σ H Q => ∃ E : XK, (∀ cls d σ' H', σ'.length = Z.N.length → E cls d H' → W cls d σ' H') ∧ σ[0]? = some (some (.ref f)) ∧ H c' = some (LamX.CodeO c' q) ∧ tl E H Q) :=
  ⟨fun pins s σ H Q I ⟨E, hW, h⟩ => (act (fun cls d σ H => σ.length = Z.N.length → W cls d σ H) pn xe E p1 p2 (takes_len tk) fun cls d σ' H' e hl => hW cls d σ' H' hl e).run pins s σ H Q I h⟩
/-- the lambda's body may raise what E says -/
theorem lam_takes {X : Cx} {A : Around} {outer : List Env} {s : Shared} {H : Hp} {E : XK} {scope : Scope} {f c' : Addr} : Takes (LamX.lamCx X A outer s H E scope f c') (fun cls d _ H => E cls d H) :=
  takes_of rfl rfl rfl rfl
/-- the law's own table -/
def noTabB (K : PySem.W.Frag) (fa : Addr) : Bool := match K.lookup fa with
  | some ⟨_, _, .func fd, _⟩ => (match fd.code with
    | .ref c => (match K.lookup c with
      | some ⟨_, _, .fields vs, _⟩ => (match (vs[11]? : Option Value) with
        | some (Value.ref P) => (K.lookup P).isNone
        | _ => false)
      | _ => false)
    | _ => false)
  | _ => false
end Ft
set_option Elab.async false
set_option linter.all false
set_option maxRecDepth 100000
set_option maxHeartbeats 4000000
set_option pp.maxSteps 2500
namespace Ft
open PySem L2
/-- what `_law_tried` makes of the reading of the lambda that it gets -/
def TTri3 (CP CT CW : Addr) : (XK → Hp → VK → Prop) → Hp → VK → Prop := fun tl H Q => ∀ p0, H p0 = none → ∃ E : XK,
  (∀ cls d H', E cls d H' → ∃ (dd : Addr), d = some dd ∧ ((cls = .ref CT ∧ ∃ v, H' dd = some (.xd [("line", v)]) ∧ ∀ p, H' p = none → Q (.ref p) (upd H' p (.tup [.str "text", v]))) ∨ (cls = .ref CW ∧ ∃ v, H' dd = some (.xd [("word", v)]) ∧ ∀ p, H' p = none → Q (.ref p) (upd H' p (.tup [.str "word", v]))) ∨ (cls = .ref CP ∧ ∃ v u, H' dd = some (.xd [("path", u), ("module", v)]) ∧ ∀ p, H' p = none → Q (.ref p) (upd H' p (.tup [.str "program", v, u]))))) ∧
  ∀ R : VK, (∀ v H2, (∀ p, H2 p = none → Q (.ref p) (upd H2 p (.tup [.str "told", v]))) → R v H2) → tl E (upd H p0 (.tup [.str "odd"])) R
/-- the errors that `_law_tried` knows -/
structure Tri3 (P : PySem.Program) (w : World) (K : PySem.W.Frag) (mg : Str → Option Value) (base : Heap) (CP CT CW : Addr) : Prop where
  eP : ErrP P w K mg base CP
  eT : ErrT P w K mg base "BadText" "line" ["self", "line"] CT
  eW : ErrT P w K mg base "BadWord" "word" ["self", "word"] CW
  xPP : PySem.W.exmOne K (.ref CP) (.ref CP) = some true
  xWP : PySem.W.exmOne K (.ref CW) (.ref CP) = some false
  xWT : PySem.W.exmOne K (.ref CW) (.ref CT) = some false
  xTP : PySem.W.exmOne K (.ref CT) (.ref CP) = some false
  xTT : PySem.W.exmOne K (.ref CT) (.ref CT) = some true
  xWW : PySem.W.exmOne K (.ref CW) (.ref CW) = some true
abbrev sLTried : Stmt := topS 56
theorem scLTried : FnScope ["_law_deed", "_law_found", "e"] ["_law_deed"] (defScope sLTried) := ⟨rfl, rfl, rfl, by decide +kernel, rfl, by decide +kernel, by decide +kernel⟩
theorem tried3_gives {X : Cx} {CP CT CW g : Addr} {cdg : Value} {q : Str} (T : Tri3 X.prog X.w X.K X.mg X.base CP CT CW) :
    LamX.GivesTo X ["_law_deed", "_law_found", "e"] "_law_tried" (defScope sLTried) g cdg (defBody sLTried) "_law_deed" q (TTri3 CP CT CW) := by
  intro f c' s H Q tl act hc h
  have eP := T.eP
  have eT := T.eT
  have eW := T.eW
  refine ⟨_, (pss_cons (ps_set (i := 1) scLTried.nd rfl (by first | exact Or.inl rfl | exact Or.inr rfl) (pe_tup (pa_cons pe_str pa_nil)))
      (pss_cons (ps_try_asM rfl rfl scLTried.nd L2.takes0 (fun W pn xe tk _ => by exact (pss_one (ps_set (i := 1) scLTried.nd rfl (by first | exact Or.inl rfl | exact Or.inr rfl) (pe_tup (pa_cons pe_str (pa_cons (pe_actE act tk) pa_nil)))))) (.cons (i := 2) rfl rfl ⟨rfl, by decide, .inl eP.g⟩ (fun a oe cls d pn hz hf => by exact (pss_one (ps_set (i := 1) scLTried.nd rfl (by first | exact Or.inl rfl | exact Or.inr rfl) (pe_tup (pa_cons pe_str (pa_cons (pe_xf eP.xf eP.nM hz hf (pv 2)) (pa_cons (pe_xf eP.xf eP.nP hz hf (pv 2)) pa_nil))))))) (.cons (i := 2) rfl rfl ⟨rfl, by decide, .inl eT.g⟩ (fun a oe cls d pn hz hf => by exact (pss_one (ps_set (i := 1) scLTried.nd rfl (by first | exact Or.inl rfl | exact Or.inr rfl) (pe_tup (pa_cons pe_str (pa_cons (pe_xf eT.xf eT.nF hz hf (pv 2)) pa_nil)))))) (.cons (i := 2) rfl rfl ⟨rfl, by decide, .inl eW.g⟩ (fun a oe cls d pn hz hf => by exact (pss_one (ps_set (i := 1) scLTried.nd rfl (by first | exact Or.inl rfl | exact Or.inr rfl) (pe_tup (pa_cons pe_str (pa_cons (pe_xf eW.xf eW.nF hz hf (pv 2)) pa_nil)))))) .nil))))
      (pss_one (ps_ret (pv 1))))), ?_⟩
  refine ⟨(by show 1 ≤ sizeLine; decide), fun p0 n0 => ?_⟩
  obtain ⟨E, hE, ht⟩ := h p0 n0
  have s1 := Same.new n0 (o := .tup [.str "odd"])
  refine ⟨E, fun cls d σ' H' hl e => ?_, rfl, s1 _ _ hc, ht _ fun v H2 k => ⟨(by show 2 ≤ sizeLine; decide), fun p np => ⟨_, rfl, k p np⟩⟩⟩
  obtain ⟨x, y, z, rfl⟩ : ∃ x y z, σ' = [x, y, z] := by
    have hl : σ'.length = 3 := hl
    match σ', hl with
    | [x, y, z], _ => exact ⟨x, y, z, rfl⟩
  obtain ⟨dd, rfl, ⟨rfl, v, h1, k⟩ | ⟨rfl, v, h1, k⟩ | ⟨rfl, v, u, h1, k⟩⟩ := hE cls d H' e
  · refine .inr ⟨T.xTP, .inl ⟨T.xTT, fun a na => ?_⟩⟩
    refine ⟨_, rfl, rfl, rfl, dd, _, v, rfl, h1, rfl, (by show 2 ≤ sizeLine; decide), fun p np => ⟨_, rfl, k p np⟩⟩
  · refine .inr ⟨T.xWP, .inr ⟨T.xWT, .inl ⟨T.xWW, fun a na => ?_⟩⟩⟩
    refine ⟨_, rfl, rfl, rfl, dd, _, v, rfl, h1, rfl, (by show 2 ≤ sizeLine; decide), fun p np => ⟨_, rfl, k p np⟩⟩
  · refine .inl ⟨T.xPP, fun a na => ?_⟩
    refine ⟨_, rfl, rfl, rfl, dd, _, v, rfl, h1, rfl, ?_⟩
    refine ⟨_, rfl, rfl, rfl, dd, _, u, rfl, h1, rfl, (by show 3 ≤ sizeLine; decide), fun p np => ⟨_, rfl, k p np⟩⟩
end Ft
set_option Elab.async false
set_option linter.all false
set_option maxRecDepth 100000
set_option maxHeartbeats 4000000
namespace Ft
open PySem L2
theorem perm_keys {β : Type} {a b : List (Str × β)} (hp : a.Perm b) (hk : a.map (·.1) = b.map (·.1)) (nd : (b.map (·.1)).Nodup) : a = b := by
  have hl := hp.length_eq
  refine List.ext_getElem hl fun i h1 h2 => ?_
  have hm : a[i] ∈ b := hp.mem_iff.mp (List.getElem_mem h1)
  obtain ⟨j, hj, ej⟩ := List.mem_iff_getElem.mp hm
  have e1 : (b.map (·.1))[j]? = some a[i].1 := by rw [List.getElem?_map, List.getElem?_eq_getElem hj, ej]; rfl
  have e2 : (b.map (·.1))[i]? = some a[i].1 := by rw [← hk, List.getElem?_map, List.getElem?_eq_getElem h1]; rfl
  have := nd_ix nd e1 e2
  subst this
  exact ej.symm
theorem libs_eq {lib2 lib3 lib : Lib} (p2 : lib2.Perm lib) (p3 : lib3.Perm lib) (s2 : PyProof.Rows.sortedS (lib2.map (·.1)) = true) (s3 : PyProof.Rows.sortedS (lib3.map (·.1)) = true) (nd : (lib.map (·.1)).Nodup) : lib2 = lib3 := by
  have nd2 : (lib2.map (·.1)).Nodup := (p2.map (·.1)).nodup_iff.mpr nd
  have nd3 : (lib3.map (·.1)).Nodup := (p3.map (·.1)).nodup_iff.mpr nd
  have h2 := sortedS_strict s2 nd2
  have h3 := sortedS_strict s3 nd3
  have pk : (lib2.map (·.1)).Perm (lib3.map (·.1)) := (p2.trans p3.symm).map (·.1)
  have ek : lib2.map (·.1) = lib3.map (·.1) := sorted_eq (lt := fun a b : Str => a.cps.toList < b.cps.toList) pk (h2.imp fun h => List.lt_asymm h) h3
  exact perm_keys (p2.trans p3.symm) ek nd3
end Ft
set_option Elab.async false
set_option linter.all false
set_option maxRecDepth 100000
set_option maxHeartbeats 1000000
namespace Ft
open PySem L2 TL
theorem starts_pre (z y : Str) : Txt.startswith z y = pre (tl y) (tl z) := by
  unfold Txt.startswith pre
  rw [StrLaws.subAt_eq, List.drop_zero, len_tl y, len_tl z]
  by_cases h : 0 + (tl y).length ≤ (tl z).length
  · rw [decide_eq_true h, Bool.true_and]
  · rw [decide_eq_false h, Bool.false_and]
    symm
    rw [beq_eq_false_iff_ne]
    intro e
    have := congrArg List.length e
    rw [List.length_take] at this
    omega
theorem pre_iff {S l : List Nat} : pre S l = true ↔ ∃ r, l = S ++ r := by
  constructor
  · intro h
    have e : l.take S.length = S := eq_of_beq h
    have z := List.take_append_drop S.length l
    rw [e] at z
    exact ⟨l.drop S.length, z.symm⟩
  · rintro ⟨r, rfl⟩
    exact pre_self S r
theorem tl_cutTail {z : Str} {k : Nat} (h : k ≤ (tl z).length) : tl (cutS z (some (k : Int)) none) = (tl z).drop k := by
  unfold cutS
  rw [tl_mk, HT.sIx_nat, HT.sIx_none, len_tl z, Nat.min_eq_left h]
  exact List.take_of_length_le (by rw [List.length_drop]; show (tl z).length - k ≤ (tl z).length - k; exact Nat.le_refl _)
theorem cut_app (a b : Str) : cutS (a ++ b) (some (a.length : Int)) none = b := by
  refine ext_tl ?_
  rw [tl_cutTail (by rw [tl_append, len_tl a, List.length_append]; omega), tl_append, len_tl a, List.drop_left]
theorem starts_app (a b : Str) : Txt.startswith (a ++ b) a = true := by
  rw [starts_pre, tl_append]
  exact pre_self _ _
theorem tl_ind : ∀ n, tl (ind n) = List.replicate (2 * n) 32
  | 0 => rfl
  | n + 1 => by
    rw [← ind_succ, tl_append, tl_ind n]
    have : tl ("  " : Str) = List.replicate 2 32 := by decide +kernel
    rw [this, List.replicate_append_replicate]
    rfl
/-- a line that is less far in -/
theorem not_starts {m n : Nat} {t : Str} {c : Nat} {r : List Nat} (h : m < n) (ht : tl t = c :: r) (hc : c ≠ 32) : Txt.startswith (ind m ++ t) (ind n) = false := by
  rw [starts_pre]
  cases e : pre (tl (ind n)) (tl (ind m ++ t)) with
  | false => rfl
  | true =>
    obtain ⟨q, hq⟩ := pre_iff.mp e
    rw [tl_append, tl_ind, tl_ind, ht] at hq
    have h1 : (List.replicate (2 * m) 32 ++ c :: r)[2 * m]? = (List.replicate (2 * n) 32 ++ q)[2 * m]? := by rw [hq]
    rw [List.getElem?_append_right (by simp), List.getElem?_append_left (by simp; omega)] at h1
    simp at h1
    rw [List.getElem?_replicate] at h1
    split at h1
    · exact absurd (Option.some.inj h1) hc
    · omega
theorem not_starts0 {n : Nat} {t : Str} {c : Nat} {r : List Nat} (h : 0 < n) (ht : tl t = c :: r) (hc : c ≠ 32) : Txt.startswith t (ind n) = false := by
  have := not_starts (m := 0) h ht hc
  have e : ind 0 ++ t = t := ext_tl (by rw [tl_append]; rfl)
  rw [e] at this
  exact this
def figT : Str := "0123456789"
def figsOf (p : Str) : Str := if cutS p none (some 1) = "-" then cutS p (some 1) none else p
def wrN (p : Str) : Bool := match tl (figsOf p) with
  | [] => false
  | c :: cs => (c :: cs).all (fun x => decide (x ∈ tl figT)) && (decide (p = "0") || !decide (c = 48))
def wrF (name p : Str) : Bool := if name = "word" then isW p else wrN p
def numN (cs : List Nat) (a : Nat) : Nat := cs.foldl (fun a c => a * 10 + (c - 48)) a
def numOf (p : Str) : Int := if (tl p).head? = some 45 then -((numN (tl (Txt.lstripChars p "-")) 0 : Nat) : Int) else ((numN (tl (Txt.lstripChars p "-")) 0 : Nat) : Int)
def valF (name p : Str) : V := if name = "word" then .str p else .int (numOf p)
/-- what reading the signs asks of them -/
def figOk (p : Str) : Bool := decide (1 ≤ (tl p).length) && (tl (Txt.lstripChars p "-")).all fun c => decide (48 ≤ c) && decide (c ≤ 57)
def numT (i : Int) : Str := toString i
theorem num_read {i : Int} (h : -999 ≤ i) (h2 : i ≤ 999) : wrN (numT i) = true ∧ numOf (numT i) = i ∧ figOk (numT i) = true ∧ (tl (numT i)).all (fun c => decide (33 ≤ c)) = true := by
  have all : ∀ n ∈ List.range 1999, wrN (numT ((n : Int) - 999)) = true ∧ numOf (numT ((n : Int) - 999)) = (n : Int) - 999 ∧ figOk (numT ((n : Int) - 999)) = true ∧ (tl (numT ((n : Int) - 999))).all (fun c => decide (33 ≤ c)) = true := by decide +kernel
  have e : ((i + 999).toNat : Int) - 999 = i := by omega
  have := all (i + 999).toNat (List.mem_range.mpr (by omega))
  rw [e] at this
  exact this
theorem word_signs {z : Str} (h : isW z = true) : (tl z).all (fun c => decide (33 ≤ c)) = true ∧ 1 ≤ (tl z).length ∧ (tl z).length ≤ 8 := by
  unfold isW at h
  rw [Bool.and_eq_true, Bool.and_eq_true] at h
  have h1 := of_decide_eq_true h.1
  have h2 := of_decide_eq_true h.2.1
  rw [len_tl] at h1 h2
  refine ⟨List.all_eq_true.mpr fun c hc => ?_, h1, h2⟩
  have := List.all_eq_true.mp h.2.2 c hc
  rw [Bool.and_eq_true] at this
  have := of_decide_eq_true this.1
  exact decide_eq_true (by omega)
def partsOf (n : Nat) (z : Str) : List Str := Txt.split (cutS z (some ((ind n).length : Int)) none) " "
def plainF (fs : List Str) : List Str := fs.filter fun f => !decide (f = "block")
def nbF (fs : List Str) : Nat := fs.length - (plainF fs).length
structure HeadRd (n : Nat) (z w : Str) (fs ps : List Str) : Prop where
  st : Txt.startswith z (ind n) = true
  pt : partsOf n z = w :: ps
  fd : fieldsOf w = some fs
  len : ps.length = (plainF fs).length
  wr : ∀ q ∈ (plainF fs).zip ps, wrF q.1 q.2 = true ∧ (q.1 ≠ "word" → figOk q.2 = true)
def valsF (fs ps : List Str) : List V := ((plainF fs).zip ps).map fun q => valF q.1 q.2
def mkRowP (w : Str) (vs : List V) : List (List Row) → Row
  | [] => .plain w vs
  | [b] => .make (strV (vs.headD .non)) b
  | b :: c :: _ => if w = "when" then .when (strV (vs.headD .non)) b c else .try_ b c
inductive RdBlks (Rec : Nat → List Row → Nat → Prop) (L : List Str) (n : Nat) : Nat → Nat → Nat → List (List Row) → Nat → Prop
  | nil {j at_ : Nat} : RdBlks Rec L n j 0 at_ [] at_
  | cons {j m at_ at1 at2 at3 : Nat} {b : List Row} {bs : List (List Row)} : (j = 1 → L[at_]? = some (ind n ++ ("else" : Str)) ∧ at1 = at_ + 1) → (j ≠ 1 → at1 = at_) → Rec at1 b at2 → RdBlks Rec L n (j + 1) m at2 bs at3 → RdBlks Rec L n j (m + 1) at_ (b :: bs) at3
def RdRow (Rec : Nat → List Row → Nat → Prop) (L : List Str) (n at_ : Nat) (r : Row) (at2 : Nat) : Prop :=
  ∃ z w fs ps bs, L[at_]? = some z ∧ HeadRd n z w fs ps ∧ RdBlks Rec L n 0 (nbF fs) (at_ + 1) bs at2 ∧ r = mkRowP w (valsF fs ps) bs
def Stands (L : List Str) (n at_ : Nat) : Prop := ∃ z, L[at_]? = some z ∧ Txt.startswith z (ind n) = true ∧ Txt.startswith z (ind n ++ (" " : Str)) = false
inductive RdMore (R : Nat → Row → Nat → Prop) (L : List Str) (n : Nat) : Nat → List Row → Nat → Prop
  | stop {at_ : Nat} : ¬ Stands L n at_ → RdMore R L n at_ [] at_
  | step {at_ at1 at2 : Nat} {r : Row} {rs : List Row} : Stands L n at_ → R at_ r at1 → RdMore R L n at1 rs at2 → RdMore R L n at_ (r :: rs) at2
def RdRows (L : List Str) : Nat → Nat → Nat → List Row → Nat → Prop
  | 0, _, _, _, _ => False
  | d + 1, n, at_, rs, at2 => (L[at_]? = some (ind n ++ ("nothing" : Str)) ∧ rs = [] ∧ at2 = at_ + 1) ∨
    (L[at_]? ≠ some (ind n ++ ("nothing" : Str)) ∧ ∃ r rest at1, rs = r :: rest ∧ RdRow (RdRows L d (n + 1)) L n at_ r at1 ∧ RdMore (RdRow (RdRows L d (n + 1)) L n) L n at1 rest at2)
inductive RdMods (L : List Str) (d : Nat) : Nat → Str → Lib → Prop
  | done {at_ : Nat} {last : Str} : at_ = L.length → last ≠ Str.empty → RdMods L d at_ last []
  | step {at_ at1 : Nat} {last w : Str} {rs : List Row} {lib : Lib} : L[at_]? = some (("module " : Str) ++ w) → isW w = true → last.cps.toList < w.cps.toList → RdRows L d 1 (at_ + 1) rs at1 → RdMods L d at1 w lib → RdMods L d at_ last ((w, rs) :: lib)
theorem words_clean {d : Nat} {wi : Bool} {r : Row} (h : RowOk d wi r) : ∀ z ∈ rowWord r :: words r, (tl z).all (fun c => decide (33 ≤ c)) = true ∧ 1 ≤ (tl z).length := by
  have rf := rowF_of h
  intro z hz
  rcases List.mem_cons.mp hz with e | hz
  · subst e
    have nm := fieldsOf_some rf.names
    have all : ∀ p ∈ fieldsT, (tl p.1).all (fun c => decide (33 ≤ c)) = true ∧ 1 ≤ (tl p.1).length := by decide +kernel
    exact all _ nm
  · obtain ⟨f, hf, e⟩ := List.mem_filterMap.mp hz
    have fo := rf.ok f hf
    unfold flW at e
    cases hfl : f.2 with
    | blk b => rw [hfl] at e; cases e
    | «at» v =>
      rw [hfl] at e fo
      have e' := Option.some.inj e
      rw [← e']
      rcases fo with ⟨_, fo⟩ | ⟨_, i, rfl, h1, h2⟩
      · cases v with
        | str y => exact ⟨(word_signs fo).1, (word_signs fo).2.1⟩
        | _ => cases fo
      · have q := num_read h1 h2
        refine ⟨q.2.2.2, ?_⟩
        have := q.2.2.1
        unfold figOk at this
        rw [Bool.and_eq_true] at this
        exact of_decide_eq_true this.1
theorem tl_space : tl (" " : Str) = [32] := by decide +kernel
theorem no32 {l : List Nat} (h : l.all (fun c => decide (33 ≤ c)) = true) : 32 ∉ l := fun m => by
  have := of_decide_eq_true (List.all_eq_true.mp h 32 m)
  omega
def Stop (n : Nat) (post : List Str) : Prop := ∀ z, post.head? = some z → Txt.startswith z (ind n) = false
theorem Stop.up {n : Nat} {post : List Str} (h : Stop n post) : Stop (n + 1) post := fun z hz => by
  have h1 := h z hz
  rw [starts_pre] at h1 ⊢
  cases e : pre (tl (ind (n + 1))) (tl z) with
  | false => rfl
  | true =>
    obtain ⟨q, hq⟩ := pre_iff.mp e
    rw [← ind_succ, tl_append, List.append_assoc] at hq
    have := pre_iff.mpr ⟨_, hq⟩
    rw [this] at h1
    cases h1
end Ft
set_option Elab.async false
set_option linter.all false
set_option maxRecDepth 100000
set_option maxHeartbeats 1000000
set_option pp.maxSteps 2500
namespace Ft
open PySem L2 TL
section
variable {X : Cx}
/-- s.index(t) of what is there -/
theorem mt_indexY : MtR X "str.index" (fun x xs H Q => ∃ (a b : Str) (k : Nat), x = .str a ∧ xs = [.str b] ∧ Txt.index0 a b = some k ∧ Q (.int (k : Nat)) H) := by
  intro pins s σ H x xs v us Q I rx rs h
  obtain ⟨a, b, k, rfl, rfl, hk, q⟩ := h
  obtain ⟨t, rfl⟩ := rx
  cases rs with
  | cons r1 rs =>
    cases rs
    obtain ⟨u, rfl⟩ := r1
    cases e : Builtin.Str.occurrences a b 0 a.length 1 with
    | nil =>
      unfold Txt.index0 at hk
      rw [e] at hk
      cases hk
    | cons k2 rest =>
      unfold Txt.index0 at hk
      rw [e] at hk
      obtain rfl : k2 = k := Option.some.inj hk
      exact PySem.SC.index e ⟨.int (k2 : Nat), H, I.tok _, ⟨_, rfl⟩, q⟩
end
theorem fig_index : ∀ c ∈ List.range' 48 10, Txt.index0 figT ⟨#[c]⟩ = some (c - 48) := by decide +kernel
theorem fig_mem : tl figT = List.range' 48 10 := by decide +kernel
section
variable {P : Program} {w : World} {K : PySem.W.Frag} {mg : Str → Option Value} {base : Heap}
abbrev sNumberOf : Stmt := topS 23
theorem scNumberOf : FnScope ["part", "found", "sign"] ["part"] (defScope sNumberOf) := ⟨rfl, rfl, rfl, by decide +kernel, rfl, by decide +kernel, by decide +kernel⟩
def spNumberOf : Sp := fun vs H Q _ => ∃ (p : Str), vs = [.str p] ∧ figOk p = true ∧ p.length ≤ 16000000 ∧ Q (.int (numOf p)) H
theorem ok_NumberOf {f : Addr} {fd : FuncData} {k : Nat} {tF : Tok} (F : Fun K "number_of" "number_of" sNumberOf f fd) (B : Bl mg) (mF : mg "FIGURES" = some (.str figT tF)) : FnOk P w K mg base CX0 (k + 1) f fd ["part"] spNumberOf := by
  refine F.ok scNumberOf (fun vs H Q E h => ?_) (fun cdv A outer s H vs Q E hr h => ?_)
  · obtain ⟨p, rfl, _⟩ := h
    rfl
  obtain ⟨p, rfl, hf, hl, q⟩ := h
  refine ⟨_, (pss_cons (ps_set (i := 1) scNumberOf.nd rfl (by first | exact Or.inl rfl | exact Or.inr rfl) pe_int)
      (pss_cons (ps_for PassesOwn.never rfl (pi_str (pe_m1 PySem.F.slot_str_lstrip PySem.F.type_str_lstrip mt_lstripChars (pv 0) pe_str)) (pg_name (i := 2) scNumberOf.nd rfl (by first | exact Or.inl rfl | exact Or.inr rfl)) (pss_one (ps_set (i := 1) scNumberOf.nd rfl (by first | exact Or.inl rfl | exact Or.inr rfl) (pe_op op_add (pe_op op_mul (pv 1) pe_int) (pe_m1 PySem.F.slot_str_index PySem.F.type_str_index mt_indexY (pe_glob (v := .str figT) (by rfl) mF ⟨_, rfl⟩) (pv 2))))))
      (pss_one (ps_ret (pe_ifExp (pt_cmpR op_eq (pe_ix ix_str (pv 0) pe_int (fun _ _ => rfl)) pe_str (nomark _)) (pe_un un_neg (pv 1)) (pv 1)))))), ?_⟩
  unfold figOk at hf
  rw [Bool.and_eq_true] at hf
  have h1 := of_decide_eq_true hf.1
  have hd := List.all_eq_true.mp hf.2
  have bg : sizeLine ≥ 16777216 := by decide
  obtain ⟨c0, r0, e0⟩ : ∃ c r, tl p = c :: r := by
    cases e : tl p with
    | nil => rw [e] at h1; cases h1
    | cons c r => exact ⟨c, r, rfl⟩
  refine ⟨_, rfl, ?_⟩
  refine ⟨⟨_, rfl⟩, p, _, rfl, rfl, by omega, _, rfl, ?_⟩
  refine for_it walk_str (fun i σ H' => H' = H ∧ ∃ v2, σ = [some (.str p), some (.int ((numN ((tl (Txt.lstripChars p "-")).take i) 0 : Nat) : Int)), v2]) ⟨rfl, _, rfl⟩ (fun _ _ _ _ _ => trivial) ?_ ?_
  · rintro i x σ H1 H2 hi ⟨rfl, v2, rfl⟩ ⟨rfl, c, hc, rfl⟩
    have hc' : (tl (Txt.lstripChars p "-"))[i]? = some c := by rw [Array.getElem?_toList]; exact hc
    have hm := hd c (List.mem_of_getElem? hc')
    rw [Bool.and_eq_true] at hm
    have c1 := of_decide_eq_true hm.1
    have c2 := of_decide_eq_true hm.2
    have ix := fig_index c (List.mem_range'_1.mpr ⟨c1, by omega⟩)
    refine ⟨_, rfl, _, _, rfl, rfl, .inr ⟨by decide, by decide⟩, ⟨_, rfl⟩, _, rfl, _, _, _, rfl, rfl, ix, _, _, rfl, rfl, ?_⟩
    have et : (tl (Txt.lstripChars p "-")).take (i + 1) = (tl (Txt.lstripChars p "-")).take i ++ [c] := by rw [List.take_add_one, hc']; rfl
    have en : numN ((tl (Txt.lstripChars p "-")).take (i + 1)) 0 = numN ((tl (Txt.lstripChars p "-")).take i) 0 * 10 + (c - 48) := by
      rw [et]
      unfold numN
      rw [List.foldl_append]
      rfl
    rw [en]
    exact ⟨rfl, some (.str ⟨#[c]⟩), by rw [Int.natCast_add, Int.natCast_mul]; rfl⟩
  · rintro σ H1 ⟨rfl, v2, rfl⟩
    have et : (tl (Txt.lstripChars p "-")).take (Txt.lstripChars p "-").cps.size = tl (Txt.lstripChars p "-") := List.take_of_length_le (by rw [Array.length_toList]; exact Nat.le_refl _)
    rw [et]
    refine ⟨_, rfl, p, 0, c0, rfl, rfl, by omega, ?_, rfl, ?_⟩
    · show atI (tl p) 0 = _
      rw [e0]
      exact atI_nat (j := 0) rfl
    have em : ("-" : Str) = ⟨#[45]⟩ := by decide +kernel
    have en : numOf p = if c0 = 45 then -((numN (tl (Txt.lstripChars p "-")) 0 : Nat) : Int) else ((numN (tl (Txt.lstripChars p "-")) 0 : Nat) : Int) := by
      unfold numOf
      rw [e0]
      simp
    by_cases hc : c0 = 45
    · rw [decide_eq_true (by rw [em, hc])]
      rw [if_pos hc] at en
      rw [en] at q
      exact ⟨_, rfl, iteT ⟨_, rfl, _, rfl, q⟩⟩
    · rw [decide_eq_false (by rw [em]; intro z; exact hc (by have := V.str.inj z; injection this with z; injection z with z; injection z))]
      rw [if_neg hc] at en
      rw [en] at q
      exact ⟨_, rfl, iteF ⟨_, rfl, q⟩⟩
abbrev sIsWritten : Stmt := topS 22
theorem scIsWritten : FnScope ["field", "part", "figures", "sign"] ["field", "part"] (defScope sIsWritten) := ⟨rfl, rfl, rfl, by decide +kernel, rfl, by decide +kernel, by decide +kernel⟩
def spIsWritten : Sp := fun vs H Q _ => ∃ (name p : Str), vs = [.str name, .str p] ∧ p.length ≤ 16000000 ∧ ∀ H', Same H H' → Q (.bl (wrF name p)) H'
theorem ok_IsWritten {f : Addr} {fd : FuncData} {k : Nat} {tF : Tok} (F : Fun K "is_written" "is_written" sIsWritten f fd) (B : Bl mg) (mF : mg "FIGURES" = some (.str figT tF)) (hk : 1 ≤ k) (gIsWord : Own P w K mg base 1 "is_word" ["thing"] (spIsWord K)) : FnOk P w K mg base CX0 (k + 1) f fd ["field", "part"] spIsWritten := by
  refine F.ok scIsWritten (fun vs H Q E h => ?_) (fun cdv A outer s H vs Q E hr h => ?_)
  · obtain ⟨n, p, rfl, _⟩ := h
    rfl
  obtain ⟨n, p, rfl, hl, q⟩ := h
  refine ⟨_, (pss_cons (ps_if (pt_cmpR op_eq (pv 0) pe_str (nomark _)) (pss_one (ps_ret (pe_own gIsWord (hr.mono (by omega)) (by rfl) (pa_cons (pv 1) pa_nil)))) pss_nil)
      (pss_cons (ps_set (i := 2) scIsWritten.nd rfl (by first | exact Or.inl rfl | exact Or.inr rfl) (pe_ifExp (pt_cmpR op_eq (pe_slice sl_str (pv 1) po_none (po_some pe_int)) pe_str (nomark _)) (pe_slice sl_str (pv 1) (po_some pe_int) po_none) (pv 1)))
      (pss_cons (ps_if (PW.pt (pw_or (pt_cmpR op_eq (pv 2) pe_str (nomark _)) (pw_or1 (pt_not (pt_val (pe_callB (cr_all rfl) (by rfl) B.all (by decide +kernel) (pa_cons (pe_lc (own := [("sign", 3)]) (g := (gName 3)) (tt := tYes) (by rfl) scIsWritten.nd (pi_str (pv 2)) (blkOk_by (own := [("sign", 3)]) (N := ["field", "part", "figures", "sign"]) (sc := defScope sIsWritten) (by decide +kernel)) (fun _ _ _ _ _ => (pg_name (i := 3) scIsWritten.nd rfl (by first | exact Or.inl rfl | exact Or.inr rfl))) (fun _ _ _ _ _ => pts_nil) (fun _ _ _ _ _ => (pe_cmpR op_in_sign (pv 3) (pe_glob (v := .str figT) (by rfl) mF ⟨_, rfl⟩) (by rfl)))) pa_nil))))))) (pss_one (ps_ret pe_bl)) pss_nil)
      (pss_one (ps_ret (pe_or (pe_cmpR op_eq (pv 1) pe_str (nomark _)) (pe_one (pe_cmpR op_ne (pe_ix ix_str (pv 2) pe_int (fun _ _ => rfl)) pe_str (nomark _))))))))), ?_⟩
  have bg : sizeLine ≥ 16777216 := by decide
  refine ⟨_, rfl, rfl, _, rfl, ?_⟩
  by_cases hw : n = "word"
  · rw [decide_eq_true (by rw [hw])]
    refine iteT ⟨_, rfl, .str p, rfl, .inl ⟨p, rfl, by omega⟩, fun H1 s1 => ?_⟩
    have := q H1 s1
    unfold wrF at this
    rw [if_pos hw] at this
    exact this
  rw [decide_eq_false (fun z => hw (V.str.inj z))]
  refine iteF ?_
  have ew : wrF n p = wrN p := by unfold wrF; rw [if_neg hw]
  rw [ew] at q
  have key : ∀ {R : V → Hp → Prop}, R (.str (figsOf p)) H → (tIf (tTest (tOp rEq (tSl rSlS (tVar 1) tNoPart (tPart (tC (V.int 1)))) (tC (V.str ("-"))))) (tSl rSlS (tVar 1) (tPart (tC (V.int 1))) tNoPart) (tVar 1)) (L2.start ["field", "part", "figures", "sign"] [V.str n, V.str p]) H R := fun {R} h => by
    have ef : figsOf p = if cutS p none (some 1) = "-" then cutS p (some 1) none else p := rfl
    refine ⟨_, rfl, 1, rfl, p, rfl, by omega, rfl, _, rfl, ?_⟩
    by_cases hc : cutS p none (some 1) = "-"
    · rw [if_pos hc] at ef
      rw [decide_eq_true (by rw [hc])]
      exact iteT ⟨_, rfl, 1, rfl, p, rfl, by omega, by rw [← ef]; exact h⟩
    · rw [if_neg hc] at ef
      rw [decide_eq_false (fun z => hc (V.str.inj z))]
      exact iteF ⟨_, rfl, by rw [← ef]; exact h⟩
  refine key ?_
  have lf : (figsOf p).length ≤ p.length := by
    unfold figsOf
    split
    · exact cutS_length _ _ _
    · exact Nat.le_refl _
  refine ⟨_, rfl, rfl, _, rfl, ?_⟩
  cases ec : tl (figsOf p) with
  | nil =>
    have e0 : figsOf p = "" := ext_tl ec
    rw [decide_eq_true (by rw [e0])]
    refine iteT (iteT ?_)
    have ew2 : wrN p = false := by unfold wrN; rw [ec]
    rw [ew2] at q
    exact q H (Same.refl H)
  | cons c cs =>
    rw [decide_eq_false (fun z => by have := V.str.inj z; rw [this] at ec; cases ec)]
    refine iteF ⟨_, rfl, figsOf p, rfl, fun D nD => ?_⟩
    refine lc_it walk_str (fun i H' => Same H H' ∧ H' D = some (.lst (((tl (figsOf p)).take i).map fun c => V.bl (decide (c ∈ tl figT)))))
      ⟨Same.new nD, upd_same⟩ (fun _ _ _ _ => trivial) ?_ ?_
    · rintro i x H1 H2 hi ⟨sm, hD⟩ ⟨rfl, c, hc, rfl⟩
      refine ⟨rfl, ?_⟩
      refine ⟨_, rfl, c, figT, rfl, rfl, _, hD, ?_, Same.upN sm nD, ?_⟩
      · rw [List.length_map, List.length_take]
        have : (tl (figsOf p)).length = (figsOf p).length := rfl
        exact big (by omega)
      · have hc' : (tl (figsOf p))[i]? = some c := by rw [Array.getElem?_toList]; exact hc
        rw [upd_same, List.take_add_one, hc', List.map_append]
        rfl
    · rintro H1 ⟨sm, hD⟩
      have e : (tl (figsOf p)).take (figsOf p).cps.size = tl (figsOf p) := List.take_of_length_le (by simp)
      rw [e] at hD
      refine ⟨D, (tl (figsOf p)).map fun c => decide (c ∈ tl figT), rfl, SqL.of (by rw [hD, List.map_map]; rfl), _, rfl, ?_⟩
      have ew2 : wrN p = ((c :: cs).all (fun x => decide (x ∈ tl figT)) && (decide (p = "0") || !decide (c = 48))) := by unfold wrN; rw [ec]
      have ea : (((tl (figsOf p)).map fun c => decide (c ∈ tl figT)).all id) = (c :: cs).all (fun x => decide (x ∈ tl figT)) := by
        rw [ec, List.all_map]
        rfl
      rw [ea]
      have ez : ("0" : Str) = ⟨#[48]⟩ := by decide +kernel
      cases hall : (c :: cs).all (fun x => decide (x ∈ tl figT)) with
      | false =>
        rw [hall, Bool.false_and] at ew2
        rw [ew2] at q
        exact iteT (q _ sm)
      | true =>
        rw [hall, Bool.true_and] at ew2
        refine iteF ⟨_, rfl, rfl, _, rfl, ?_⟩
        by_cases hp : p = "0"
        · rw [decide_eq_true hp] at ew2
          rw [ew2] at q
          rw [decide_eq_true (by rw [hp])]
          exact iteT (q _ sm)
        · rw [decide_eq_false hp, Bool.false_or] at ew2
          rw [decide_eq_false (fun z => hp (V.str.inj z))]
          refine iteF ⟨_, rfl, figsOf p, 0, c, rfl, rfl, by omega, ?_, rfl, ?_⟩
          · show atI (tl (figsOf p)) 0 = _
            rw [ec]
            exact atI_nat (j := 0) rfl
          · have ed : decide (V.str ⟨#[c]⟩ = V.str "0") = decide (c = 48) := by
              rw [ez]
              refine decide_eq_decide.mpr ⟨fun z => ?_, fun z => by rw [z]⟩
              have := V.str.inj z
              injection this with z; injection z with z; injection z
            rw [ed, ← ew2]
            exact q _ sm
abbrev sStandsAt : Stmt := topS 25
theorem scStandsAt : FnScope ["lines", "at", "indent"] ["lines", "at", "indent"] (defScope sStandsAt) := ⟨rfl, rfl, rfl, by decide +kernel, rfl, by decide +kernel, by decide +kernel⟩
def spStandsAt : Sp := fun vs H Q _ => ∃ (l : Addr) (L : List Str) (i n : Nat), vs = [.ref l, .int i, .str (ind n)] ∧ H l = some (.lst (L.map V.str)) ∧ n ≤ 1000 ∧ ∀ b : Bool, (b = true ↔ Stands L n i) → Q (.bl b) H
theorem ok_StandsAt {f : Addr} {fd : FuncData} {k : Nat} (F : Fun K "stands_at" "stands_at" sStandsAt f fd) (B : Bl mg) : FnOk P w K mg base CX0 (k + 1) f fd ["lines", "at", "indent"] spStandsAt := by
  refine F.ok scStandsAt (fun vs H Q E h => ?_) (fun cdv A outer s H vs Q E hr h => ?_)
  · obtain ⟨l, L, i, n, rfl, _⟩ := h
    rfl
  obtain ⟨l, L, i, n, rfl, hl, hn, q⟩ := h
  have hn : (ind n).length + (" " : Str).length ≤ sizeLine := by
    rw [ind_len]
    have : (" " : Str).length = 1 := by decide +kernel
    have bg : sizeLine ≥ 16777216 := by decide
    omega
  refine ⟨_, (pss_one (ps_ret (pe_and (pe_cmpR op_lt (pv 1) (pe_callB call_len_seq (by rfl) B.len (by decide +kernel) (pa_cons (pv 0) pa_nil)) (nomark _)) (pe_and (pe_m1 PySem.F.slot_str_startswith PySem.F.type_str_startswith mt_startswith (pe_ix ix_list (pv 0) (pv 1) (fun _ _ => rfl)) (pv 2)) (pe_one (pe_not (pe_m1 PySem.F.slot_str_startswith PySem.F.type_str_startswith mt_startswith (pe_ix ix_list (pv 0) (pv 1) (fun _ _ => rfl)) (pe_op op_add_str (pv 2) pe_str)))))))), ?_⟩
  refine ⟨_, rfl, _, rfl, l, _, rfl, .inl (SqL.of hl), _, _, rfl, rfl, _, rfl, ?_⟩
  rw [List.length_map]
  by_cases hi : i < L.length
  · have hz : L[i]? = some L[i] := List.getElem?_eq_getElem hi
    generalize L[i] = z at hz
    have ix : atI (L.map V.str) (i : Int) = some (.str z) := atI_nat (by rw [List.getElem?_map, hz]; rfl)
    rw [decide_eq_true (by omega)]
    refine iteT ⟨_, rfl, _, rfl, l, _, _, _, rfl, rfl, SqL.of hl, ix, ⟨_, rfl⟩, _, rfl, _, _, rfl, rfl, _, rfl, ?_⟩
    cases h1 : Txt.startswith z (ind n) with
    | false => exact iteF (q false ⟨(by intro c; cases c), (by rintro ⟨z', hz', h2, _⟩; rw [hz] at hz'; rw [← Option.some.inj hz', h1] at h2; cases h2)⟩)
    | true =>
      refine iteT ⟨_, rfl, _, rfl, l, _, _, _, rfl, rfl, SqL.of hl, ix, ⟨_, rfl⟩, _, rfl, _, _, rfl, rfl, hn, _, _, rfl, rfl, _, rfl, ?_⟩
      refine q _ ⟨fun c => ⟨z, hz, h1, by cases h2 : Txt.startswith z (ind n ++ (" " : Str)) with
        | false => rfl
        | true => rw [h2] at c; cases c⟩, ?_⟩
      rintro ⟨z', hz', h2, h3⟩
      rw [hz] at hz'
      rw [Option.some.inj hz', h3]
      rfl
  · rw [decide_eq_false (by omega)]
    refine iteF (q false ⟨(by intro c; cases c), (by rintro ⟨z', hz', _⟩; exact absurd (List.getElem?_eq_some_iff.mp hz').1 hi)⟩)
end
end Ft
set_option Elab.async false
set_option linter.all false
set_option maxRecDepth 100000
set_option maxHeartbeats 1000000
set_option pp.maxSteps 3000
set_option pp.deepTerms.threshold 8
namespace Ft
open PySem L2 TL
def lstK : Bool → Bool → Prop := fun _ b => b = true
structure LnOk (L : List Str) : Prop where
  len : ∀ z ∈ L, z.length ≤ 15000000
  all : L.length ≤ 16000000
theorem mem_szL {z : Str} : ∀ {ls : List Str}, z ∈ ls → z.length ≤ szL ls
  | y :: ls, h => by
    rw [szL_cons]
    rcases List.mem_cons.mp h with e | h
    · rw [e]; omega
    · have := mem_szL h; omega
theorem all_true : ∀ n : Nat, (List.replicate n true).all id = true
  | 0 => rfl
  | n + 1 => by rw [List.replicate_succ, List.all_cons, all_true n]; rfl
theorem nb_one : ∀ p ∈ fieldsT, nbF p.2 = 1 → p = (("make" : Str), [("word" : Str), "block"]) := by decide +kernel
theorem nb_two : ∀ p ∈ fieldsT, nbF p.2 = 2 → p = (("when" : Str), [("word" : Str), "block", "block"]) ∨ p = (("try" : Str), [("block" : Str), "block"]) := by decide +kernel
theorem nb_few : ∀ p ∈ fieldsT, nbF p.2 ≤ 2 := by decide +kernel
theorem mkRow_at {ok : Addr → Prop} {H : Hp} {d n : Nat} {z w0 : Str} {fs ps : List Str} {rr : Addr} {zs : List V} {done : List (List Row)} (hd : HeadRd n z w0 fs ps) (kr : ok rr) (hr : H rr = some (.lst (.str w0 :: valsF fs ps ++ zs)))
    (hz : Paired (fun v b => ∃ e, d = e + 1 ∧ RowsAt ok lstK H e v b) zs done) (hl : done.length = nbF fs) : RowAt ok lstK H d (.ref rr) (mkRowP w0 (valsF fs ps) done) := by
  have hfs := fieldsOf_some hd.fd
  have at_ : At ok (lstK false) H (.ref rr) (.str w0 :: valsF fs ps ++ zs) := ⟨rr, true, rfl, kr, rfl, hr⟩
  have hlen := hd.len
  cases hz with
  | nil =>
    rw [List.append_nil] at at_
    cases d <;> exact at_
  | @cons v b zs bs h1 ht =>
    obtain ⟨e, rfl, xs, hv, hp⟩ := h1
    cases ht with
    | nil =>
      have e1 := nb_one _ hfs hl.symm
      have ew : w0 = "make" := congrArg Prod.fst e1
      have ef : fs = [("word" : Str), "block"] := congrArg Prod.snd e1
      subst ew
      subst ef
      have l1 : ps.length = 1 := hlen
      match ps, l1 with
      | [a], _ => exact ⟨v, xs, at_, hv, hp⟩
    | @cons v2 b2 zs2 bs2 h2 ht2 =>
      obtain ⟨e2, ee, xs2, hv2, hp2⟩ := h2
      obtain rfl : e = e2 := Nat.succ.inj ee
      cases ht2 with
      | nil =>
        rcases nb_two _ hfs hl.symm with e1 | e1
        · have ew : w0 = "when" := congrArg Prod.fst e1
          have ef : fs = [("word" : Str), "block", "block"] := congrArg Prod.snd e1
          subst ew
          subst ef
          have l1 : ps.length = 1 := hlen
          match ps, l1 with
          | [a], _ => exact ⟨v, xs, v2, xs2, at_, hv, hp, hv2, hp2⟩
        · have ew : w0 = "try" := congrArg Prod.fst e1
          have ef : fs = [("block" : Str), "block"] := congrArg Prod.snd e1
          subst ew
          subst ef
          have l1 : ps.length = 0 := hlen
          match ps, l1 with
          | [], _ => exact ⟨v, xs, v2, xs2, at_, hv, hp, hv2, hp2⟩
      | cons h3 ht3 =>
        have := nb_few _ hfs
        simp only [List.length_cons] at hl
        have h2 : nbF fs ≤ 2 := this
        omega
section
variable {P : Program} {w : World} {K : PySem.W.Frag} {mg : Str → Option Value} {base : Heap}
abbrev sReadRow : Stmt := topS 24
theorem scReadRow : FnScope ["lines", "at", "indent", "parts", "plain", "field", "part", "row", "b", "block"] ["lines", "at", "indent"] (defScope sReadRow) := ⟨rfl, rfl, rfl, by decide +kernel, rfl, by decide +kernel, by decide +kernel⟩
def spReadRow (d : Nat) : Sp := fun vs H Q _ => ∃ (l : Addr) (L : List Str) (i n : Nat) (r : Row) (i2 : Nat), vs = [.ref l, .int i, .str (ind n)] ∧ H l = some (.lst (L.map V.str)) ∧ LnOk L ∧ n + d ≤ 1000 ∧ RdRow (RdRows L d (n + 1)) L n i r i2 ∧
  ∀ H' T v, Same H H' → H T = none → H' T = some (.tup [v, .int i2]) → RowAt (fun x => H x = none) lstK H' d v r → Q (.ref T) H'
def spReadRows (d : Nat) : Sp := fun vs H Q _ => ∃ (l : Addr) (L : List Str) (i n : Nat) (rs : List Row) (i2 : Nat), vs = [.ref l, .int i, .str (ind n)] ∧ H l = some (.lst (L.map V.str)) ∧ LnOk L ∧ n + d ≤ 1000 ∧ RdRows L (d + 1) n i rs i2 ∧
  ∀ H' T v, Same H H' → H T = none → H' T = some (.tup [v, .int i2]) → RowsAt (fun x => H x = none) lstK H' d v rs → Q (.ref T) H'
theorem ok_ReadRow {f dF : Addr} {fd : FuncData} {k d : Nat} {spF : Sp} {tS : Tok} (F : Fun K "read_row" "read_row" sReadRow f fd) (B : Bl mg) (TF : FldT K w mg dF) (mS : mg "STEP" = some (.str "  " tS)) (hk : 2 ≤ k)
    (gIsWritten : Own P w K mg base 2 "is_written" ["field", "part"] spIsWritten) (gNumberOf : Own P w K mg base 1 "number_of" ["part"] spNumberOf)
    (gReadRows : Own P w K mg base k "read_rows" ["lines", "at", "indent"] spF) (hF : ∀ e, d = e + 1 → spF = spReadRows e) : FnOk P w K mg base CX0 (k + 1) f fd ["lines", "at", "indent"] (spReadRow d) := by
  obtain ⟨es, nn, D⟩ := TF.dict
  refine F.ok scReadRow (fun vs H Q E h => ?_) (fun cdv A outer s H vs Q E hr h => ?_)
  · obtain ⟨l, L, i, n, r, i2, rfl, _⟩ := h
    rfl
  obtain ⟨l, L, i, n, r, i2, rfl, hl, lok, hn, ⟨z, w0, fs, ps, bs, hz, hd, hb, rfl⟩, q⟩ := h
  refine ⟨_, (pss_cons (ps_if (PW.pt (pw_or (pt_cmpR op_eq (pv 1) (pe_callB call_len_seq (by rfl) B.len (by decide +kernel) (pa_cons (pv 0) pa_nil)) (nomark _)) (pw_or1 (pt_not (pt_val (pe_m1 PySem.F.slot_str_startswith PySem.F.type_str_startswith mt_startswith (pe_ix ix_list (pv 0) (pv 1) (fun _ _ => rfl)) (pv 2))))))) (pss_one ps_never) pss_nil)
      (pss_cons (ps_set (i := 3) scReadRow.nd rfl (by first | exact Or.inl rfl | exact Or.inr rfl) (pe_split (pe_slice sl_str (pe_ix ix_list (pv 0) (pv 1) (fun _ _ => rfl)) (po_some (pe_callB call_len_str (by rfl) B.len (by decide +kernel) (pa_cons (pv 2) pa_nil))) po_none) pe_str))
      (pss_cons (ps_if (pt_cmpR (op_notIn_kd D) (pe_ix ix_list (pv 3) pe_int (fun _ _ => rfl)) (pe_glob (v := .ref dF) (by rfl) TF.g rfl) (by rfl)) (pss_one ps_never) pss_nil)
      (pss_cons (ps_setLc (i := 4) (own := [("field", 5)]) (g := (gName 5)) (by rfl) scReadRow.nd rfl rfl (sw_true rfl rfl rfl (by decide +kernel)) (pi_tup (pe_ix ix_kdict (pe_glob (v := .ref dF) (by rfl) TF.g rfl) (pe_ix ix_list (pv 3) pe_int (fun _ _ => rfl)) (fun _ _ => rfl))) (blkOk_by (own := [("field", 5)]) (N := ["lines", "at", "indent", "parts", "plain", "field", "part", "row", "b", "block"]) (sc := defScope sReadRow) (by decide +kernel)) (fun _ _ _ _ _ => (pg_name (i := 5) scReadRow.nd rfl (by first | exact Or.inl rfl | exact Or.inr rfl))) (fun _ _ _ _ _ => (pts_one (pt_cmpR op_ne (pv 5) pe_str (nomark _)))) (fun _ _ _ _ _ => (pv 5)))
      (pss_cons (ps_if (PW.pt (pw_or (pt_cmpR op_ne (pe_callB call_len_seq (by rfl) B.len (by decide +kernel) (pa_cons (pv 3) pa_nil)) (pe_op op_add (pe_callB call_len_seq (by rfl) B.len (by decide +kernel) (pa_cons (pv 4) pa_nil)) pe_int) (nomark _)) (pw_or1 (pt_not (pt_val (pe_callB (cr_all rfl) (by rfl) B.all (by decide +kernel) (pa_cons (pe_lc (own := [("field", 5), ("part", 6)]) (g := (gTup _ 2 (gCons (gName 5) (gCons (gName 6) gNil)))) (tt := tYes) (by rfl) scReadRow.nd (pi_zipQ (by rfl) B.zip (pa_cons (pv 4) (pa_cons (pe_slice sl_list (pv 3) (po_some pe_int) po_none) pa_nil))) (blkOk_by (own := [("field", 5), ("part", 6)]) (N := ["lines", "at", "indent", "parts", "plain", "field", "part", "row", "b", "block"]) (sc := defScope sReadRow) (by decide +kernel)) (fun _ _ _ _ _ => (pg_tup (by rfl) (pgs_cons (pg_name (i := 5) scReadRow.nd rfl (by first | exact Or.inl rfl | exact Or.inr rfl)) (pgs_cons (pg_name (i := 6) scReadRow.nd rfl (by first | exact Or.inl rfl | exact Or.inr rfl)) pgs_nil)))) (fun _ _ _ _ _ => pts_nil) (fun _ _ _ _ _ => (pe_own gIsWritten (hr.mono (by omega)) (by rfl) (pa_cons (pv 5) (pa_cons (pv 6) pa_nil))))) pa_nil))))))) (pss_one ps_never) pss_nil)
      (pss_cons (ps_set (i := 7) scReadRow.nd rfl (by first | exact Or.inl rfl | exact Or.inr rfl) (pe_op op_cat (pe_lst (pa_cons (pe_ix ix_list (pv 3) pe_int (fun _ _ => rfl)) pa_nil)) (pe_lc (own := [("field", 5), ("part", 6)]) (g := (gTup _ 2 (gCons (gName 5) (gCons (gName 6) gNil)))) (tt := tYes) (by rfl) scReadRow.nd (pi_zipQ (by rfl) B.zip (pa_cons (pv 4) (pa_cons (pe_slice sl_list (pv 3) (po_some pe_int) po_none) pa_nil))) (blkOk_by (own := [("field", 5), ("part", 6)]) (N := ["lines", "at", "indent", "parts", "plain", "field", "part", "row", "b", "block"]) (sc := defScope sReadRow) (by decide +kernel)) (fun _ _ _ _ _ => (pg_tup (by rfl) (pgs_cons (pg_name (i := 5) scReadRow.nd rfl (by first | exact Or.inl rfl | exact Or.inr rfl)) (pgs_cons (pg_name (i := 6) scReadRow.nd rfl (by first | exact Or.inl rfl | exact Or.inr rfl)) pgs_nil)))) (fun _ _ _ _ _ => pts_nil) (fun _ _ _ _ _ => (pe_ifExp (pt_cmpR op_eq (pv 5) pe_str (nomark _)) (pv 6) (pe_own gNumberOf (hr.mono (by omega)) (by rfl) (pa_cons (pv 6) pa_nil)))))))
      (pss_cons (ps_aug (i := 1) scReadRow.nd rfl (by first | exact Or.inl rfl | exact Or.inr rfl) pe_int ip_add)
      (pss_cons (ps_for PassesOwn.never rfl (pi_range1 (by rfl) B.range (pa_cons (pe_op op_sub (pe_callB call_len_seq (by rfl) B.len (by decide +kernel) (pa_cons (pe_ix ix_kdict (pe_glob (v := .ref dF) (by rfl) TF.g rfl) (pe_ix ix_list (pv 3) pe_int (fun _ _ => rfl)) (fun _ _ => rfl)) pa_nil)) (pe_callB call_len_seq (by rfl) B.len (by decide +kernel) (pa_cons (pv 4) pa_nil))) pa_nil)) (pg_name (i := 8) scReadRow.nd rfl (by first | exact Or.inl rfl | exact Or.inr rfl)) (pss_cut (ps_if (pt_cmpR op_eq (pv 8) pe_int (nomark _)) (pss_cons (ps_if (PW.pt (pw_or (pt_cmpR op_eq (pv 1) (pe_callB call_len_seq (by rfl) B.len (by decide +kernel) (pa_cons (pv 0) pa_nil)) (nomark _)) (pw_or1 (pt_cmpR op_ne (pe_ix ix_list (pv 0) (pv 1) (fun _ _ => rfl)) (pe_op op_add_str (pv 2) pe_str) (nomark _))))) (pss_one ps_never) pss_nil)
      (pss_one (ps_aug (i := 1) scReadRow.nd rfl (by first | exact Or.inl rfl | exact Or.inr rfl) pe_int ip_add))) pss_nil)
      (pss_cons (ps_asg (pe_own gReadRows (hr.mono (by omega)) (by rfl) (pa_cons (pv 0) (pa_cons (pv 1) (pa_cons (pe_op op_add_str (pv 2) (pe_glob (v := .str "  ") (by rfl) mS ⟨_, rfl⟩)) pa_nil)))) (pg_tup (by rfl) (pgs_cons (pg_name (i := 9) scReadRow.nd rfl (by first | exact Or.inl rfl | exact Or.inr rfl)) (pgs_cons (pg_name (i := 1) scReadRow.nd rfl (by first | exact Or.inl rfl | exact Or.inr rfl)) pgs_nil))))
      (pss_one (ps_expr (pe_bm PySem.F.plainAttrs_list PySem.F.slot_list_append PySem.F.type_list_append mt_append (pv 7) (pa_cons (pv 9) pa_nil)))))))
      (pss_one (ps_ret (pe_tup (pa_cons (pv 7) (pa_cons (pv 1) pa_nil))))))))))))), ?_⟩
  have bg : sizeLine ≥ 16777216 := by decide
  have hi : i < L.length := (List.getElem?_eq_some_iff.mp hz).1
  have lz : z.length ≤ 15000000 := lok.len z (List.mem_of_getElem? hz)
  have ix : atI (L.map V.str) (i : Int) = some (.str z) := atI_nat (by rw [List.getElem?_map, hz]; rfl)
  have il : (ind n).length ≤ 2000 := by rw [ind_len]; omega
  have hfs := fieldsOf_some hd.fd
  obtain ⟨tA, hn2, htA⟩ := TF.val _ hfs
  refine ⟨_, rfl, _, rfl, l, _, rfl, .inl (SqL.of hl), rfl, _, rfl, ?_⟩
  rw [decide_eq_false (show ¬ V.int (i : Int) = V.int ((L.map V.str).length : Nat) from fun z => by
    have := V.int.inj z
    rw [List.length_map] at this
    omega)]
  refine iteF ⟨_, rfl, _, rfl, l, _, _, _, rfl, rfl, SqL.of hl, ix, ⟨_, rfl⟩, _, rfl, _, _, rfl, rfl, _, rfl, ?_⟩
  rw [hd.st]
  refine iteF ?_
  refine ⟨_, rfl, _, rfl, l, _, _, _, rfl, rfl, SqL.of hl, ix, _, rfl, _, rfl, (by omega), _, rfl, z, rfl, (by omega), ⟨_, rfl⟩, _, _, rfl, rfl, (by decide +kernel), (by have := cutS_length z (some ((ind n).length : Int)) none; omega), fun p np => ?_⟩
  have ept : Txt.split (cutS z (some ((ind n).length : Int)) none) " " = w0 :: ps := hd.pt
  rw [ept]
  have s1 : Same H (upd H p (.lst ((w0 :: ps).map V.str))) := Same.new np
  have hp1 : (upd H p (.lst ((w0 :: ps).map V.str))) p = some (.lst ((w0 :: ps).map V.str)) := upd_same
  generalize hG1 : upd H p _ = G1 at *
  have at0 : atI ((w0 :: ps).map V.str) 0 = some (.str w0) := atI_nat (j := 0) rfl
  refine ⟨_, rfl, p, _, 0, _, rfl, rfl, SqL.of hp1, at0, w0, _, rfl, rfl, hn2, _, rfl, iteF ?_⟩
  refine ⟨_, rfl, p, _, 0, _, rfl, rfl, SqL.of hp1, at0, dF, w0, .ref tA, rfl, rfl, ⟨es, nn, .ref tA, D.at_, D.lit, hn2, rfl⟩, tA, rfl, ⟨_, htA G1⟩, fun pl npl => ?_⟩
  have fl3 := fields_len hfs
  refine lc_it walk_tup (fun j H' => Same G1 H' ∧ H' pl = some (.lst ((plainF (fs.take j)).map V.str)))
    ⟨Same.new npl, upd_same⟩ (fun j H' _ _ => htA H') ?_ ?_
  · rintro j y H3 H4 hj ⟨s3, hpl⟩ ⟨rfl, hy⟩
    obtain ⟨fj, hfj, rfl⟩ : ∃ fj, fs[j]? = some fj ∧ y = .str fj := by
      rw [List.getElem?_map] at hy
      cases e : fs[j]? with
      | none => rw [e] at hy; cases hy
      | some m => rw [e] at hy; exact ⟨m, rfl, (Option.some.inj hy).symm⟩
    have et : plainF (fs.take (j + 1)) = plainF (fs.take j) ++ plainF [fj] := by
      rw [List.take_add_one, hfj]
      exact List.filter_append ..
    refine ⟨rfl, ?_⟩
    refine ⟨_, rfl, rfl, _, rfl, ?_⟩
    by_cases eb : fj = "block"
    · rw [decide_eq_true (by rw [eb])]
      refine iteF ⟨s3, ?_⟩
      rw [et, eb]
      exact hpl.trans (by simp [plainF])
    · rw [decide_eq_false (fun z => eb (V.str.inj z))]
      refine iteT ⟨_, rfl, _, hpl, ?_, Same.upN s3 npl, ?_⟩
      · have : (plainF (fs.take j)).length ≤ (fs.take j).length := List.length_filter_le _ _
        rw [List.length_take] at this
        exact small (by rw [List.length_map]; omega)
      · rw [upd_same, et, List.map_append]
        have : plainF [fj] = [fj] := by simp [plainF, eb]
        rw [this]
        rfl
  rintro G2 ⟨s2, hpl⟩
  rw [List.length_map, List.take_length] at hpl
  have hpl : G2 pl = some (.lst ((plainF fs).map V.str)) := hpl
  have hp2 := s2 _ _ hp1
  have lpl : (plainF fs).length ≤ 3 := Nat.le_trans (List.length_filter_le _ _) fl3
  have lps : ps.length ≤ 3 := by rw [hd.len]; exact lpl
  refine ⟨_, rfl, p, _, rfl, .inl (SqL.of hp2), _, rfl, pl, _, rfl, .inl (SqL.of hpl), _, _, rfl, rfl, rfl, _, rfl, ?_⟩
  have lz0 : (!decide (V.int ((List.map V.str (w0 :: ps)).length : Nat) = V.int (((List.map V.str (plainF fs)).length : Nat) + 1))) = false := by
    rw [decide_eq_true (by rw [List.length_map, List.length_map, List.length_cons, hd.len]; rfl)]
    rfl
  rw [lz0]
  have cutp : cutV ((w0 :: ps).map V.str) (some 1) none = ps.map V.str := cut1 _ _
  refine iteF ⟨_, rfl, _, rfl, 1, rfl, p, _, rfl, SqL.of hp2, fun p3 np3 => ?_⟩
  rw [cutp]
  have s3 : Same G2 (upd G2 p3 (.lst (ps.map V.str))) := Same.new np3
  have hp3 : (upd G2 p3 (.lst (ps.map V.str))) p3 = some (.lst (ps.map V.str)) := upd_same
  generalize hG3 : upd G2 p3 _ = G3 at *
  have hpl3 := s3 _ _ hpl
  have pairs : ∀ {j : Nat} {x1 x2 : V}, ((plainF fs).map V.str)[j]? = some x1 → (ps.map V.str)[j]? = some x2 → ∃ a b, x1 = .str a ∧ x2 = .str b ∧ ((plainF fs).zip ps)[j]? = some (a, b) ∧ b.length ≤ 16000000 := fun {j x1 x2} e1 e2 => by
    rw [List.getElem?_map] at e1 e2
    cases h1 : (plainF fs)[j]? with
    | none => rw [h1] at e1; cases e1
    | some a =>
      cases h2 : ps[j]? with
      | none => rw [h2] at e2; cases e2
      | some b =>
        rw [h1] at e1
        rw [h2] at e2
        refine ⟨a, b, (Option.some.inj e1).symm, (Option.some.inj e2).symm, List.getElem?_zip_eq_some.mpr ⟨h1, h2⟩, ?_⟩
        have hb : b ∈ Txt.split (cutS z (some ((ind n).length : Int)) none) " " := by rw [ept]; exact List.mem_cons_of_mem _ (List.mem_of_getElem? h2)
        have h3 := mem_szL hb
        have h4 := PyProof.Rows.split_weight (cutS z (some ((ind n).length : Int)) none) " " (by decide +kernel)
        have h5 := cutS_length z (some ((ind n).length : Int)) none
        have h6 : szL (Txt.split (cutS z (some ((ind n).length : Int)) none) " ") ≤ z.length + 1 := Nat.le_trans h4 (by omega)
        omega
  refine ⟨pl, p3, true, true, _, _, rfl, sq_of (kd := true) hpl3, sq_of (kd := true) hp3, fun pb npb => ?_⟩
  refine lc_it (walk_zipQ (n := (plainF fs).length) (by rw [List.length_map, List.length_map, hd.len]; omega)) (fun j H' => Same G3 H' ∧ H' pb = some (.lst ((List.replicate j true).map V.bl)))
    ⟨Same.new npb, upd_same⟩ (fun j H' _ ⟨s4, _⟩ => ⟨sq_of (kd := true) (s4 _ _ hpl3), sq_of (kd := true) (s4 _ _ hp3)⟩) ?_ ?_
  · rintro j y H3 H4 hj ⟨s4, hpb⟩ ⟨T, x1, x2, rfl, nT, rfl, e1, e2⟩
    obtain ⟨a, b, rfl, rfl, hab, lb⟩ := pairs e1 e2
    have wr := hd.wr _ (List.mem_of_getElem? hab)
    refine ⟨T, _, rfl, SqT.of upd_same, rfl, _, _, rfl, _, _, rfl, rfl, rfl, ?_⟩
    refine ⟨_, rfl, _, rfl, a, b, rfl, lb, fun H5 s5 => ?_⟩
    have s6 : Same G3 H5 := Same.trans s4 (Same.trans (Same.new nT) s5)
    rw [wr.1]
    refine ⟨_, s5 _ _ (Same.new nT _ _ hpb), ?_, Same.upN s6 npb, ?_⟩
    · exact small (by rw [List.length_map, List.length_replicate]; omega)
    · rw [upd_same, List.replicate_succ', List.map_append]
      rfl
  rintro G4 ⟨s4, hpb⟩
  refine ⟨pb, _, rfl, SqL.of hpb, _, rfl, ?_⟩
  rw [all_true]
  refine iteF ?_
  have hp4 := s4 _ _ (s3 _ _ hp2)
  have hpl4 := s4 _ _ hpl3
  refine ⟨_, rfl, p, _, 0, _, rfl, rfl, SqL.of hp4, at0, (by show 1 ≤ sizeLine; decide), fun t1 nt1 => ?_⟩
  have s5 : Same G4 (upd G4 t1 (.lst [.str w0])) := Same.new nt1
  have ht1 : (upd G4 t1 (.lst [.str w0])) t1 = some (.lst [.str w0]) := upd_same
  generalize hG5 : upd G4 t1 _ = G5 at *
  have hp5 := s5 _ _ hp4
  refine ⟨_, rfl, _, rfl, 1, rfl, p, _, rfl, SqL.of hp5, fun p6 np6 => ?_⟩
  rw [cutp]
  have s6 : Same G5 (upd G5 p6 (.lst (ps.map V.str))) := Same.new np6
  have hp6 : (upd G5 p6 (.lst (ps.map V.str))) p6 = some (.lst (ps.map V.str)) := upd_same
  generalize hG6 : upd G5 p6 _ = G6 at *
  have hpl6 := s6 _ _ (s5 _ _ hpl4)
  refine ⟨pl, p6, true, true, _, _, rfl, sq_of (kd := true) hpl6, sq_of (kd := true) hp6, fun pv npv => ?_⟩
  refine lc_it (walk_zipQ (n := (plainF fs).length) (by rw [List.length_map, List.length_map, hd.len]; omega)) (fun j H' => Same G6 H' ∧ H' pv = some (.lst ((((plainF fs).zip ps).take j).map fun q => valF q.1 q.2)))
    ⟨Same.new npv, upd_same⟩ (fun j H' _ ⟨s7, _⟩ => ⟨sq_of (kd := true) (s7 _ _ hpl6), sq_of (kd := true) (s7 _ _ hp6)⟩) ?_ ?_
  · rintro j y H3 H4 hj ⟨s7, hpv⟩ ⟨T, x1, x2, rfl, nT, rfl, e1, e2⟩
    obtain ⟨a, b, rfl, rfl, hab, lb⟩ := pairs e1 e2
    have wr := hd.wr _ (List.mem_of_getElem? hab)
    have s8 : Same G6 (upd H3 T (.tup [.str a, .str b])) := Same.trans s7 (Same.new nT)
    have hpv2 := Same.new (o := .tup [.str a, .str b]) nT _ _ hpv
    have hsm : ((((plainF fs).zip ps).take j).map fun q => valF q.1 q.2).length < sizeLine := small (by
      rw [List.length_map, List.length_take]
      omega)
    have hup : (upd (upd H3 T (.tup [.str a, .str b])) pv (.lst (((((plainF fs).zip ps).take j).map fun q => valF q.1 q.2) ++ [valF a b]))) pv = some (.lst ((((plainF fs).zip ps).take (j + 1)).map fun q => valF q.1 q.2)) := by
      rw [upd_same, List.take_add_one, hab, List.map_append]
      rfl
    refine ⟨T, _, rfl, SqT.of upd_same, rfl, _, _, rfl, _, _, rfl, rfl, rfl, ?_⟩
    refine ⟨_, rfl, rfl, _, rfl, ?_⟩
    by_cases ha : a = "word"
    · rw [decide_eq_true (by rw [ha])]
      refine iteT ⟨_, rfl, _, hpv2, hsm, Same.upN s8 npv, ?_⟩
      have ev : valF a b = .str b := by unfold valF; rw [if_pos ha]
      rw [ev] at hup
      exact hup
    · rw [decide_eq_false (fun z => ha (V.str.inj z))]
      refine iteF ⟨_, rfl, b, rfl, wr.2 ha, lb, _, hpv2, hsm, Same.upN s8 npv, ?_⟩
      have ev : valF a b = .int (numOf b) := by unfold valF; rw [if_neg ha]
      rw [ev] at hup
      exact hup
  rintro G7 ⟨s7, hpv⟩
  have zl : ((plainF fs).zip ps).length = (plainF fs).length := by rw [List.length_zip, hd.len]; omega
  rw [← zl, List.take_length] at hpv
  have hpv : G7 pv = some (.lst (valsF fs ps)) := hpv
  have lv : (valsF fs ps).length ≤ 3 := by unfold valsF; rw [List.length_map, zl]; exact lpl
  have ht7 := s7 _ _ (s6 _ _ ht1)
  refine ⟨t1, pv, _, _, rfl, rfl, ht7, hpv, smallE (by simp; omega), fun rr nrr => ?_⟩
  have sH7 : Same H G7 := Same.trans s1 (Same.trans s2 (Same.trans s3 (Same.trans s4 (Same.trans s5 (Same.trans s6 s7)))))
  have s8 : Same G7 (upd G7 rr (.lst ([.str w0] ++ valsF fs ps))) := Same.new nrr
  have hrr : (upd G7 rr (.lst ([.str w0] ++ valsF fs ps))) rr = some (.lst (.str w0 :: valsF fs ps)) := upd_same
  generalize hG8 : upd G7 rr _ = G8 at *
  have nrrH : H rr = none := Same.free sH7 nrr
  have sH8 : Same H G8 := Same.trans sH7 s8
  have hp8 := s8 _ _ (s7 _ _ (s6 _ _ hp5))
  have hpl8 := s8 _ _ (s7 _ _ hpl6)
  refine ⟨_, rfl, _, _, rfl, rfl, ?_⟩
  have enb : ((fs.map V.str).length : Int) - ((plainF fs).map V.str).length = (nbF fs : Nat) := by
    rw [List.length_map, List.length_map]
    unfold nbF
    have : (plainF fs).length ≤ fs.length := List.length_filter_le _ _
    omega
  refine ⟨_, rfl, p, _, 0, _, rfl, rfl, SqL.of hp8, at0, dF, w0, .ref tA, rfl, rfl, ⟨es, nn, .ref tA, D.at_, D.lit, hn2, rfl⟩, tA, _, rfl, .inr (htA G8), _, rfl, pl, _, rfl, .inl (SqL.of hpl8), _, _, rfl, rfl, (nbF fs : Nat), congrArg (fun x => [V.int x]) enb, by omega, (by have : nbF fs ≤ 3 := Nat.le_trans (Nat.sub_le _ _) fl3; omega), ?_⟩
  have nb3 : nbF fs ≤ 3 := Nat.le_trans (Nat.sub_le _ _) fl3
  refine for_it (walk_range (lo := 0) (n := ((nbF fs : Nat) : Int).toNat)) (fun j σ H' => Same H H' ∧ ∃ (cur m : Nat) (done rest : List (List Row)) (zs : List V) (v8 v9 : Option V), σ = [some (.ref l), some (.int (cur : Nat)), some (.str (ind n)), some (.ref p), some (.ref pl), none, none, some (.ref rr), v8, v9] ∧
      m + j = nbF fs ∧ bs = done ++ rest ∧ RdBlks (RdRows L d (n + 1)) L n j m cur rest i2 ∧ H' rr = some (.lst (.str w0 :: valsF fs ps ++ zs)) ∧ Paired (fun v b => ∃ e, d = e + 1 ∧ RowsAt (fun x => H x = none ∧ x ≠ rr) lstK H' e v b) zs done ∧ done.length = j)
    ⟨sH8, i + 1, nbF fs, [], bs, [], none, none, by rfl, by omega, rfl, hb, by rw [hrr, List.append_nil], .nil, rfl⟩ (fun _ _ _ _ _ => trivial) ?_ ?_
  · rintro j x σ H1 H2 hj ⟨sm, cur, m, done, rest, zs, v8, v9, rfl, hm, rfl, hrd, hr1, hzs, hdl⟩ ⟨rfl, rfl⟩
    have hj' : j < nbF fs := by simpa using hj
    obtain ⟨m, rfl⟩ : ∃ m', m = m' + 1 := ⟨m - 1, by omega⟩
    cases hrd with
    | @cons _ _ _ at1 at2 _ b rest c1 c2 hR hTl =>
    have hl2 := sm _ _ hl
    refine ⟨fun σ H' => σ = [some (.ref l), some (.int (at1 : Nat)), some (.str (ind n)), some (.ref p), some (.ref pl), none, none, some (.ref rr), some (.int (0 + (j : Int))), v9] ∧ H' = H2, ?_, ?_⟩
    · refine ⟨_, rfl, rfl, _, rfl, ?_⟩
      by_cases hj1 : j = 1
      · obtain ⟨g, rfl⟩ := c1 hj1
        have hc : cur < L.length := (List.getElem?_eq_some_iff.mp g).1
        have ixc : atI (L.map V.str) (cur : Int) = some (.str (ind n ++ ("else" : Str))) := atI_nat (by rw [List.getElem?_map, g]; rfl)
        rw [decide_eq_true (by rw [hj1]; rfl)]
        refine iteT ⟨_, rfl, _, rfl, l, _, rfl, .inl (SqL.of hl2), rfl, _, rfl, ?_⟩
        rw [decide_eq_false (show ¬ V.int (cur : Int) = V.int ((L.map V.str).length : Nat) from fun z => by
          have := V.int.inj z
          rw [List.length_map] at this
          omega)]
        have l4 : ("else" : Str).length = 4 := by decide +kernel
        refine iteF ⟨_, rfl, _, rfl, l, _, _, _, rfl, rfl, SqL.of hl2, ixc, _, rfl, _, _, rfl, rfl, by omega, rfl, _, rfl, ?_⟩
        rw [decide_eq_true rfl]
        exact iteF ⟨_, rfl, _, _, rfl, rfl, rfl, rfl⟩
      · obtain rfl := c2 hj1
        rw [decide_eq_false (fun z => hj1 (by have := V.int.inj z; omega))]
        exact iteF ⟨rfl, rfl⟩
    rintro σ H3 ⟨rfl, rfl⟩
    cases d with
    | zero => exact hR.elim
    | succ e =>
    obtain rfl := hF e rfl
    have l2 : ("  " : Str).length = 2 := by decide +kernel
    refine ⟨_, rfl, _, rfl, _, rfl, _, _, rfl, rfl, by omega, ?_⟩
    rw [ind_succ]
    refine ⟨l, L, at1, n + 1, b, at2, rfl, hl2, lok, by omega, hR, fun H4 T v s4 nT hT hrows => ?_⟩
    refine ⟨T, _, rfl, SqT.of hT, rfl, _, _, rfl, _, _, rfl, rfl, ?_⟩
    have hr4 := s4 _ _ hr1
    have lz3 : zs.length ≤ 3 := by rw [paired_len hzs, hdl]; omega
    refine ⟨_, rfl, .inl ⟨rfl, _, SqL.of hr4⟩, _, rfl, rr, _, _, rfl, rfl, hr4, small (by simp; omega), ?_⟩
    refine ⟨Same.upN (Same.trans sm s4) nrrH, at2, m, done ++ [b], rest, zs ++ [v], _, _, rfl, by omega, by simp, hTl, ?_, ?_, by simp [hdl]⟩
    · rw [upd_same, ← List.append_assoc]
    · have nr : ∀ x kd xs, (H3 x = none) → H4 x = some (mkO kd xs) → (H x = none ∧ x ≠ rr) ∧ (upd H4 rr (.lst (.str w0 :: valsF fs ps ++ zs ++ [v]))) x = some (mkO kd xs) := fun x kd xs k e => by
        have xr : x ≠ rr := fun z => by rw [z, hr1] at k; cases k
        exact ⟨⟨Same.free sm k, xr⟩, by rw [upd_ne xr]; exact e⟩
      exact paired_app ⟨e, rfl, hrows.to nr⟩ (paired_imp hzs fun v2 b2 ⟨e2, he, h2⟩ => ⟨e2, he, h2.to fun x kd xs k e => ⟨k, by rw [upd_ne k.2]; exact s4 _ _ e⟩⟩)
  · rintro σ H1 ⟨sm, cur, m, done, rest, zs, v8, v9, rfl, hm, rfl, hrd, hr1, hzs, hdl⟩
    have m0 : m = 0 := by simp at hm; omega
    subst m0
    cases hrd
    rw [List.append_nil] at q
    refine ⟨_, rfl, _, rfl, (by show 2 ≤ sizeLine; decide), fun T nT => ?_⟩
    have nTH := Same.free sm nT
    refine q _ T (.ref rr) (Same.trans sm (Same.new nT)) nTH upd_same ?_
    refine (mkRow_at (ok := fun x => H x = none) hd nrrH hr1 (paired_imp hzs fun v b ⟨e, he, h⟩ => ⟨e, he, h.to (Keep.mono fun x k _ => k.1)⟩) (by simp at hm hdl; omega)).to (Keep.new nT)
end
end Ft
set_option Elab.async false
set_option linter.all false
set_option maxRecDepth 100000
set_option maxHeartbeats 1000000
set_option pp.maxSteps 3000
set_option pp.deepTerms.threshold 8
namespace Ft
open PySem L2 TL
theorem rdBlks_le {Rec : Nat → List Row → Nat → Prop} {L : List Str} {n : Nat} (hR : ∀ a b c, Rec a b c → a < c) {j m a c : Nat} {bs : List (List Row)} (h : RdBlks Rec L n j m a bs c) : a ≤ c := by
  induction h with
  | nil => exact Nat.le_refl _
  | @cons j m a a1 a2 a3 b bs c1 c2 h1 h2 ih =>
    have := hR _ _ _ h1
    by_cases e : j = 1
    · have := (c1 e).2; omega
    · have := c2 e; omega
theorem rdRow_lt {Rec : Nat → List Row → Nat → Prop} {L : List Str} {n a c : Nat} {r : Row} (hR : ∀ a b c, Rec a b c → a < c) (h : RdRow Rec L n a r c) : a < c := by
  obtain ⟨z, w, fs, ps, bs, _, _, hb, _⟩ := h
  have := rdBlks_le hR hb
  omega
theorem rdMore_le {R : Nat → Row → Nat → Prop} {L : List Str} {n a c : Nat} {rs : List Row} (hR : ∀ a b c, R a b c → a < c) (h : RdMore R L n a rs c) : a ≤ c := by
  induction h with
  | stop => exact Nat.le_refl _
  | step _ h1 _ ih => have := hR _ _ _ h1; omega
theorem rdRows_lt {L : List Str} : ∀ {d n a c : Nat} {rs : List Row}, RdRows L d n a rs c → a < c
  | 0, _, _, _, _, h => h.elim
  | d + 1, n, a, c, rs, h => by
    rcases h with ⟨_, _, e⟩ | ⟨_, r, rest, a1, _, h1, h2⟩
    · omega
    · have k1 := rdRow_lt (fun _ _ _ h => rdRows_lt h) h1
      have k2 := rdMore_le (fun _ _ _ h => rdRow_lt (fun _ _ _ h => rdRows_lt h) h) h2
      omega
section
variable {P : Program} {w : World} {K : PySem.W.Frag} {mg : Str → Option Value} {base : Heap}
abbrev sReadRows : Stmt := topS 26
theorem scReadRows : FnScope ["lines", "at", "indent", "row", "found"] ["lines", "at", "indent"] (defScope sReadRows) := ⟨rfl, rfl, rfl, by decide +kernel, rfl, by decide +kernel, by decide +kernel⟩
theorem ok_ReadRows {f : Addr} {fd : FuncData} {k d : Nat} (F : Fun K "read_rows" "read_rows" sReadRows f fd) (B : Bl mg) (hk : 1 ≤ k) (gStandsAt : Own P w K mg base 1 "stands_at" ["lines", "at", "indent"] spStandsAt)
    (gReadRow : Own P w K mg base k "read_row" ["lines", "at", "indent"] (spReadRow d)) : FnOk P w K mg base CX0 (k + 1) f fd ["lines", "at", "indent"] (spReadRows d) := by
  refine F.ok scReadRows (fun vs H Q E h => ?_) (fun cdv A outer s H vs Q E hr h => ?_)
  · obtain ⟨l, L, i, n, rs, i2, rfl, _⟩ := h
    rfl
  obtain ⟨l, L, i, n, rs, i2, rfl, hl, lok, hn, hrd, q⟩ := h
  refine ⟨_, (pss_cons (ps_if (PW.pt (pw_and (pt_cmpR op_lt (pv 1) (pe_callB call_len_seq (by rfl) B.len (by decide +kernel) (pa_cons (pv 0) pa_nil)) (nomark _)) (pw_and1 (pt_cmpR op_eq (pe_ix ix_list (pv 0) (pv 1) (fun _ _ => rfl)) (pe_op op_add_str (pv 2) pe_str) (nomark _))))) (pss_one (ps_ret (pe_tup (pa_cons (pe_lst pa_nil) (pa_cons (pe_op op_add (pv 1) pe_int) pa_nil))))) pss_nil)
      (pss_cons (ps_asg (pe_own gReadRow (hr.mono (by omega)) (by rfl) (pa_cons (pv 0) (pa_cons (pv 1) (pa_cons (pv 2) pa_nil)))) (pg_tup (by rfl) (pgs_cons (pg_name (i := 3) scReadRows.nd rfl (by first | exact Or.inl rfl | exact Or.inr rfl)) (pgs_cons (pg_name (i := 1) scReadRows.nd rfl (by first | exact Or.inl rfl | exact Or.inr rfl)) pgs_nil))))
      (pss_cons (ps_set (i := 4) scReadRows.nd rfl (by first | exact Or.inl rfl | exact Or.inr rfl) (pe_lst (pa_cons (pv 3) pa_nil)))
      (pss_cons (ps_while PassesOwn.never (pt_val (pe_own gStandsAt (hr.mono (by omega)) (by rfl) (pa_cons (pv 0) (pa_cons (pv 1) (pa_cons (pv 2) pa_nil))))) (pss_cons (ps_asg (pe_own gReadRow (hr.mono (by omega)) (by rfl) (pa_cons (pv 0) (pa_cons (pv 1) (pa_cons (pv 2) pa_nil)))) (pg_tup (by rfl) (pgs_cons (pg_name (i := 3) scReadRows.nd rfl (by first | exact Or.inl rfl | exact Or.inr rfl)) (pgs_cons (pg_name (i := 1) scReadRows.nd rfl (by first | exact Or.inl rfl | exact Or.inr rfl)) pgs_nil))))
      (pss_one (ps_expr (pe_bm PySem.F.plainAttrs_list PySem.F.slot_list_append PySem.F.type_list_append mt_append (pv 4) (pa_cons (pv 3) pa_nil))))))
      (pss_one (ps_ret (pe_tup (pa_cons (pv 4) (pa_cons (pv 1) pa_nil))))))))), ?_⟩
  have bg : sizeLine ≥ 16777216 := by decide
  have il : (ind n).length ≤ 2000 := by rw [ind_len]; omega
  have l7 : ("nothing" : Str).length = 7 := by decide +kernel
  have all := lok.all
  refine ⟨_, rfl, _, rfl, l, _, rfl, .inl (SqL.of hl), _, _, rfl, rfl, _, rfl, ?_⟩
  obtain ⟨z, hz⟩ : ∃ z, L[i]? = some z := by
    rcases hrd with ⟨h, _⟩ | ⟨_, r, rest, a1, _, ⟨z, _, _, _, _, h, _⟩, _⟩
    · exact ⟨_, h⟩
    · exact ⟨_, h⟩
  have hi : i < L.length := (List.getElem?_eq_some_iff.mp hz).1
  have ix : atI (L.map V.str) (i : Int) = some (.str z) := atI_nat (by rw [List.getElem?_map, hz]; rfl)
  rw [decide_eq_true (by rw [List.length_map]; omega)]
  refine iteT ⟨_, rfl, _, rfl, l, _, _, _, rfl, rfl, SqL.of hl, ix, _, rfl, _, _, rfl, rfl, by omega, rfl, _, rfl, ?_⟩
  rcases hrd with ⟨h, rfl, rfl⟩ | ⟨hno, r, rest, a1, rfl, h1, h2⟩
  · rw [hz] at h
    rw [decide_eq_true (by rw [Option.some.inj h])]
    refine iteT ⟨Nat.zero_le _, fun p0 np0 => ⟨_, rfl, _, _, rfl, rfl, (by show 2 ≤ sizeLine; decide), fun T nT => ?_⟩⟩
    have s1 : Same H (upd H p0 (.lst [])) := Same.new np0
    refine q _ T (.ref p0) (Same.trans s1 (Same.new nT)) (Same.free s1 nT) upd_same ⟨[], ⟨p0, true, rfl, np0, rfl, Same.new nT _ _ upd_same⟩, .nil⟩
  have hne : z ≠ ind n ++ ("nothing" : Str) := fun e => hno (by rw [hz, e])
  rw [decide_eq_false (fun e => hne (V.str.inj e))]
  refine iteF ?_
  have lt1 := rdRow_lt (fun _ _ _ h => rdRows_lt h) h1
  refine ⟨_, rfl, _, rfl, _, rfl, l, L, i, n, r, a1, rfl, hl, lok, hn, h1, fun H1 T v s1 nT hT hrow => ?_⟩
  refine ⟨T, _, rfl, SqT.of hT, rfl, _, _, rfl, _, _, rfl, rfl, ?_⟩
  refine ⟨_, rfl, (by show 1 ≤ sizeLine; decide), fun fl nfl => ?_⟩
  have nflH := Same.free s1 nfl
  refine ⟨fun m σ H' => ∃ (cur : Nat) (done rs : List Row) (zs : List V) (v3 : Option V), σ = [some (.ref l), some (.int (cur : Nat)), some (.str (ind n)), v3, some (.ref fl)] ∧ rs.length = m ∧ r :: rest = done ++ rs ∧ done.length ≤ cur ∧
    RdMore (RdRow (RdRows L d (n + 1)) L n) L n cur rs i2 ∧ Same H H' ∧ H' fl = some (.lst zs) ∧ Paired (RowAt (fun x => H x = none ∧ x ≠ fl) lstK H' d) zs done, ⟨rest.length, a1, [r], rest, [v], _, rfl, rfl, rfl, by show 1 ≤ a1; omega, h2, Same.trans s1 (Same.new nfl), upd_same, ?_⟩, ?_⟩
  · refine .cons (hrow.to fun x kd xs k e => ⟨⟨k, fun c => ?_⟩, Same.new nfl _ _ e⟩) .nil
    rw [c, nfl] at e
    cases e
  rintro m σ H2 ⟨cur, done, rs, zs, v3, rfl, hm, hrs, hcur, hmore, s2, hfl, hzs⟩
  have hl2 := s2 _ _ hl
  refine ⟨_, rfl, _, rfl, _, rfl, l, L, cur, n, rfl, hl2, by omega, fun b hb => ⟨_, rfl, ?_⟩⟩
  cases hmore with
  | stop hno =>
    have eb : b = false := by
      cases b with
      | false => rfl
      | true => exact absurd (hb.mp rfl) hno
    subst eb
    rw [List.append_nil] at hrs
    refine iteF ⟨_, rfl, _, rfl, (by show 2 ≤ sizeLine; decide), fun T nT => ?_⟩
    refine q _ T (.ref fl) (Same.trans s2 (Same.new nT)) (Same.free s2 nT) upd_same ⟨zs, ⟨fl, true, rfl, nflH, rfl, Same.new nT _ _ hfl⟩, ?_⟩
    rw [hrs]
    exact paired_imp hzs fun v r h => h.to fun x kd xs k e => ⟨k.1, Same.new nT _ _ e⟩
  | @step _ c1 _ r2 rs2 hst hr2 hm2 =>
    have eb : b = true := hb.mpr hst
    subst eb
    have hc : cur < L.length := by
      obtain ⟨z, hz, _⟩ := hst
      exact (List.getElem?_eq_some_iff.mp hz).1
    have lt2 := rdRow_lt (fun _ _ _ h => rdRows_lt h) hr2
    refine iteT ⟨_, fun σ' H' h => h, ?_⟩
    refine ⟨_, rfl, _, rfl, _, rfl, l, L, cur, n, r2, c1, rfl, hl2, lok, hn, hr2, fun H3 T2 v2 s3 nT2 hT2 hrow2 => ?_⟩
    refine ⟨T2, _, rfl, SqT.of hT2, rfl, _, _, rfl, _, _, rfl, rfl, ?_⟩
    have hfl3 := s3 _ _ hfl
    refine ⟨_, rfl, .inl ⟨rfl, _, SqL.of hfl3⟩, _, rfl, fl, _, _, rfl, rfl, hfl3, big (by rw [paired_len hzs]; omega), ?_⟩
    refine ⟨rs2.length, by rw [← hm, List.length_cons]; omega, c1, done ++ [r2], rs2, zs ++ [v2], _, rfl, rfl, by rw [hrs]; simp, by rw [List.length_append]; show done.length + 1 ≤ c1; omega, hm2, Same.upN (Same.trans s2 s3) nflH, upd_same, ?_⟩
    refine paired_app (hrow2.to fun x kd xs k e => ?_) (paired_imp hzs fun v r h => h.to fun x kd xs k e => ⟨k, by rw [upd_ne k.2]; exact s3 _ _ e⟩)
    have xf : x ≠ fl := fun c => by rw [c, hfl] at k; cases k
    exact ⟨⟨Same.free s2 k, xf⟩, by rw [upd_ne xf]; exact e⟩
end
end Ft
set_option Elab.async false
set_option linter.all false
set_option maxRecDepth 100000
set_option maxHeartbeats 1000000
namespace Ft
open PySem L2
def fldG : Bool → V → Bool
  | true, .str z => isW z
  | false, .int _ => true
  | _, _ => false
def plainG (w : Str) (fs : List V) : Prop := ∃ ks, (w, ks) ∈ plainT ∧ Paired (fun k v => fldG k v = true) ks fs
def RowG : Nat → Row → Prop
  | _, .plain w fs => plainG w fs
  | d + 1, .make n b => isW n = true ∧ ∀ r ∈ b, RowG d r
  | d + 1, .when n b c => isW n = true ∧ (∀ r ∈ b, RowG d r) ∧ ∀ r ∈ c, RowG d r
  | d + 1, .try_ b c => (∀ r ∈ b, RowG d r) ∧ ∀ r ∈ c, RowG d r
  | 0, _ => False
def FlG (d : Nat) (name : Str) : Fl → Prop
  | .at x => (name = "word" ∧ wordV x = true) ∨ (name = "number" ∧ ∃ i, x = .int i)
  | .blk b => name = "block" ∧ ∃ e, d = e + 1 ∧ ∀ r ∈ b, RowG e r
theorem fldG_plain {k : Bool} {v : V} (h : fldG k v = true) (d : Nat) : FlG d (if k then "word" else "number") (.at v) := by
  cases k with
  | true =>
    cases v with
    | str z => exact .inl ⟨rfl, h⟩
    | _ => cases h
  | false =>
    cases v with
    | int i => exact .inr ⟨rfl, i, rfl⟩
    | _ => cases h
theorem fldsG_plain {w : Str} {fs : List V} (h : plainG w fs) (d : Nat) : ∃ names, fieldsOf w = some names ∧ names.length = fs.length ∧ (names.zip (fs.map Fl.at)).map (·.1) = names ∧ ∀ f ∈ names.zip (fs.map Fl.at), FlG d f.1 f.2 := by
  obtain ⟨ks, hk, hp⟩ := h
  have e := plainT_fields _ hk
  have hl := paired_len hp
  have go : ∀ {ks : List Bool} {fs : List V}, Paired (fun k v => fldG k v = true) ks fs → ((ks.map fun b => if b then ("word" : Str) else "number").zip (fs.map Fl.at)).map (·.1) = (ks.map fun b => if b then ("word" : Str) else "number") ∧ ∀ f ∈ (ks.map fun b => if b then ("word" : Str) else "number").zip (fs.map Fl.at), FlG d f.1 f.2 := by
    intro ks fs h
    induction h with
    | nil => exact ⟨rfl, fun f hf => by cases hf⟩
    | cons r t ih =>
      refine ⟨by rw [List.map_cons, List.map_cons, List.zip_cons_cons, List.map_cons, ih.1], fun f hf => ?_⟩
      rw [List.map_cons, List.map_cons, List.zip_cons_cons] at hf
      rcases List.mem_cons.mp hf with e | hf
      · rw [e]; exact fldG_plain r d
      · exact ih.2 f hf
  exact ⟨_, e, by rw [List.length_map]; exact hl, (go hp).1, (go hp).2⟩
structure RowGF (d : Nat) (r : Row) : Prop where
  names : fieldsOf (rowWord r) = some ((flds r).map (·.1))
  ok : ∀ f ∈ flds r, FlG d f.1 f.2
  few : (flds r).length ≤ 3
  blk : blocks r = (flds r).filterMap fun f => match f.2 with
    | .blk b => some b
    | .at _ => none
theorem rowGF_of {r : Row} : ∀ {d : Nat}, RowG d r → RowGF d r := by
  intro d h
  have plain : ∀ {w : Str} {fs : List V}, plainG w fs → RowGF d (.plain w fs) := by
    intro w fs h
    obtain ⟨ks, hk, hp⟩ := id h
    obtain ⟨names, e, hl, hz, hok⟩ := fldsG_plain h d
    have ef : flds (.plain w fs) = names.zip (fs.map Fl.at) := by
      show ((fieldsOf w).getD []).zip (fs.map Fl.at) = _
      rw [e]; rfl
    have f3 : ∀ p ∈ plainT, p.2.length ≤ 3 := by decide +kernel
    have l1 := f3 _ hk
    have l2 := paired_len hp
    refine ⟨by rw [ef, hz]; exact e, by rw [ef]; exact hok, ?_, ?_⟩
    · rw [ef, List.length_zip, List.length_map]
      have : ks.length ≤ 3 := l1
      omega
    · rw [ef]
      show [] = _
      symm
      rw [List.filterMap_eq_nil_iff]
      intro f hf
      obtain ⟨v, _, hv⟩ := List.mem_map.mp (List.of_mem_zip hf).2
      rw [← hv]
  cases d with
  | zero =>
    cases r with
    | plain w fs => exact plain h
    | _ => exact h.elim
  | succ d =>
    cases r with
    | plain w fs => exact plain h
    | make n b =>
      obtain ⟨h2, h4⟩ := h
      refine ⟨by show fieldsOf "make" = some (["word", "block"] : List Str); decide +kernel, fun f hf => ?_, by show 2 ≤ 3; decide, rfl⟩
      rcases List.mem_cons.mp hf with e | hf
      · rw [e]; exact .inl ⟨rfl, h2⟩
      · rw [List.mem_singleton.mp hf]
        exact ⟨rfl, d, rfl, h4⟩
    | when n b c =>
      obtain ⟨h1, h4, h5⟩ := h
      refine ⟨by show fieldsOf "when" = some (["word", "block", "block"] : List Str); decide +kernel, fun f hf => ?_, by show 3 ≤ 3; decide, rfl⟩
      rcases List.mem_cons.mp hf with e | hf
      · rw [e]; exact .inl ⟨rfl, h1⟩
      · rcases List.mem_cons.mp hf with e | hf
        · rw [e]; exact ⟨rfl, d, rfl, h4⟩
        · rw [List.mem_singleton.mp hf]; exact ⟨rfl, d, rfl, h5⟩
    | try_ b c =>
      obtain ⟨h4, h5⟩ := h
      refine ⟨by show fieldsOf "try" = some (["block", "block"] : List Str); decide +kernel, fun f hf => ?_, by show 2 ≤ 3; decide, rfl⟩
      rcases List.mem_cons.mp hf with e | hf
      · rw [e]; exact ⟨rfl, d, rfl, h4⟩
      · rw [List.mem_singleton.mp hf]; exact ⟨rfl, d, rfl, h5⟩
theorem blkG_ok {d : Nat} {r : Row} (h : RowG d r) {b : List Row} (hb : b ∈ blocks r) : ∃ e, d = e + 1 ∧ ∀ r' ∈ b, RowG e r' := by
  have rf := rowGF_of h
  rw [rf.blk] at hb
  obtain ⟨ff, hff, eff⟩ := List.mem_filterMap.mp hb
  have fok := rf.ok ff hff
  cases hfl : ff.2 with
  | «at» v => rw [hfl] at eff; cases eff
  | blk b2 =>
    rw [hfl] at eff fok
    obtain rfl : b2 = b := Option.some.inj eff
    exact fok.2
theorem rowWG_eq {d : Nat} {r : Row} (h : RowG d r) (path : List Int) (i : Nat) : rowW d path (r, i) = (path ++ [(i : Int)], r) :: (blocks r).zipIdx.flatMap (blkW d path i) := by
  cases d with
  | zero =>
    cases r with
    | plain w fs => rfl
    | _ => exact h.elim
  | succ d => rfl
section
variable {ok : Addr → Prop} {kk : Bool → Bool → Prop} {H : Hp}
theorem rowVG_of {r : Row} {v : V} : ∀ {d : Nat}, RowG d r → RowAt ok kk H d v r → ∃ rest, At ok (kk false) H v (.str (rowWord r) :: rest) ∧ Paired (fun x (f : Str × Fl) => FlAt ok kk H d x f.2) rest (flds r) := by
  intro d hk h
  have plain : ∀ {w : Str} {fs : List V}, plainG w fs → At ok (kk false) H v (.str w :: fs) → ∃ rest, At ok (kk false) H v (.str w :: rest) ∧ Paired (fun x (f : Str × Fl) => FlAt ok kk H d x f.2) rest (flds (.plain w fs)) := by
    intro w fs hk h
    obtain ⟨names, e, hl, _, _⟩ := fldsG_plain hk 0
    refine ⟨fs, h, ?_⟩
    show Paired _ fs (((fieldsOf w).getD []).zip (fs.map Fl.at))
    rw [e]
    exact zip_at hl
  cases d with
  | zero =>
    cases r with
    | plain w fs => exact plain hk h
    | _ => exact h.elim
  | succ d =>
    cases r with
    | plain w fs => exact plain hk h
    | make n b =>
      obtain ⟨vb, xs, h1, h2, h3⟩ := h
      exact ⟨_, h1, .cons rfl (.cons ⟨d, rfl, xs, h2, h3⟩ .nil)⟩
    | when n b c =>
      obtain ⟨vb, xs, vc, ys, h1, h2, h3, h4, h5⟩ := h
      exact ⟨_, h1, .cons rfl (.cons ⟨d, rfl, xs, h2, h3⟩ (.cons ⟨d, rfl, ys, h4, h5⟩ .nil))⟩
    | try_ b c =>
      obtain ⟨vb, xs, vc, ys, h1, h2, h3, h4, h5⟩ := h
      exact ⟨_, h1, .cons ⟨d, rfl, xs, h2, h3⟩ (.cons ⟨d, rfl, ys, h4, h5⟩ .nil)⟩
/-- what is_row says of such a row, and that its things are known -/
theorem rowG_known {K : PySem.W.Frag} {d : Nat} {wi : Bool} {r : Row} {rest : List V} (hok : RowG d r) (hrest : Paired (fun x (f : Str × Fl) => FlAt ok kk H d x f.2) rest (flds r)) :
    (∀ x ∈ (.str (rowWord r) :: rest : List V), KnownS K H isRef x) ∧ rowB isRef wi (.str (rowWord r) :: rest) = !(wi && (decide (rowWord r = "make") || decide (rowWord r = "call"))) := by
  have rf := rowGF_of hok
  have each : ∀ (i : Nat) (x : V), rest[i]? = some x → ∃ f : Str × Fl, (flds r)[i]? = some f ∧ KnownS K H isRef x ∧ fieldB isRef f.1 x = true := by
    intro i x hx
    obtain ⟨f, hf, hat⟩ := paired_get hrest hx
    have fok := rf.ok f (List.mem_of_getElem? hf)
    refine ⟨f, hf, ?_⟩
    obtain ⟨name, fl⟩ := f
    cases fl with
    | «at» v =>
      have e : x = v := hat
      subst e
      rcases fok with ⟨h1, h2⟩ | ⟨h1, i, h2⟩
      · have h1' : name = "word" := h1
        subst h1'
        cases x with
        | str z => exact ⟨atom_known rfl fun y e => by rw [← V.str.inj e]; exact smallE (by have := isW_len h2; omega), h2⟩
        | _ => cases h2
      · have h1' : name = "number" := h1
        subst h1'
        subst h2
        exact ⟨atom_known rfl fun y e => (nomatch e), by
          show (if ("number" : Str) = "word" then wordV (.int i) else if ("number" : Str) = "number" then intV (.int i) else isRef (.int i)) = true
          rw [if_neg (by decide), if_pos rfl]; rfl⟩
    | blk b =>
      have h1 : name = "block" := fok.1
      subst h1
      obtain ⟨e, _, ys, h2, _⟩ := hat
      refine ⟨seq_known h2, ?_⟩
      obtain ⟨a, kd, rfl, _⟩ := h2
      rfl
  refine ⟨fun x hx => ?_, ?_⟩
  · rcases List.mem_cons.mp hx with e | hx
    · rw [e]
      refine atom_known rfl fun y e => ?_
      rw [← V.str.inj e]
      have hfs := fieldsOf_some rf.names
      have : ∀ p ∈ fieldsT, p.1.length ≤ 8 := by decide +kernel
      exact smallE (by have := this _ hfs; have e2 : (rowWord r, (flds r).map (·.1)).1 = rowWord r := rfl; rw [e2] at this; omega)
    · obtain ⟨i, hi, e⟩ := List.mem_iff_getElem.mp hx
      obtain ⟨f, _, h, _⟩ := each i x (by rw [List.getElem?_eq_getElem hi, e])
      exact h
  · rw [rowB_str, rf.names]
    show (!(wi && (decide (rowWord r = "make") || decide (rowWord r = "call"))) && (decide (rest.length = ((flds r).map (·.1)).length) && _)) = _
    rw [List.length_map, decide_eq_true (paired_len hrest), Bool.true_and]
    have : ((((flds r).map (·.1)).zip rest).all fun p => fieldB isRef p.1 p.2) = true := by
      rw [List.all_eq_true]
      intro p hp
      obtain ⟨i, hi, e⟩ := List.mem_iff_getElem.mp hp
      have ep : (((flds r).map (·.1)).zip rest)[i]? = some p := by rw [List.getElem?_eq_getElem hi, e]
      obtain ⟨e1, e2⟩ := List.getElem?_zip_eq_some.mp ep
      obtain ⟨f, hf, _, h⟩ := each i p.2 e2
      rw [List.getElem?_map, hf] at e1
      have e3 : f.1 = p.1 := Option.some.inj e1
      rw [← e3]
      exact h
    rw [this, Bool.and_true]
end
theorem valsF_G {fs ps : List Str} (hl : ps.length = (plainF fs).length) (hw : ∀ q ∈ (plainF fs).zip ps, wrF q.1 q.2 = true) (hn : ∀ f ∈ plainF fs, f = "word" ∨ f = "number") : Paired (fun k v => fldG k v = true) ((plainF fs).map fun f : Str => decide (f = ("word" : Str))) (valsF fs ps) := by
  unfold valsF
  generalize plainF fs = ns at *
  induction ns generalizing ps with
  | nil => exact .nil
  | cons n ns ih =>
    cases ps with
    | nil => cases hl
    | cons p ps =>
      rw [List.zip_cons_cons, List.map_cons, List.map_cons]
      refine .cons ?_ (ih (Nat.succ.inj hl) (fun q hq => hw q (by rw [List.zip_cons_cons]; exact List.mem_cons_of_mem _ hq)) fun f hf => hn f (List.mem_cons_of_mem _ hf))
      have h := hw (n, p) (by rw [List.zip_cons_cons]; exact List.mem_cons_self)
      rcases hn n List.mem_cons_self with rfl | rfl
      · exact h
      · rfl
theorem mkRow_G {n d : Nat} {z w : Str} {fs ps : List Str} {bs : List (List Row)} (hd : HeadRd n z w fs ps) (hl : bs.length = nbF fs) (hb : ∀ b ∈ bs, ∃ e, d = e + 1 ∧ ∀ r ∈ b, RowG e r) : RowG d (mkRowP w (valsF fs ps) bs) := by
  have hfs := fieldsOf_some hd.fd
  have all : ∀ p ∈ fieldsT, ∀ f ∈ plainF p.2, f = "word" ∨ f = "number" := by decide +kernel
  have hv := valsF_G hd.len (fun q hq => (hd.wr q hq).1) (all _ hfs)
  have two : ∀ p ∈ fieldsT, nbF p.2 ≤ 2 := by decide +kernel
  have h2 : nbF fs ≤ 2 := two _ hfs
  have one : ∀ {x : List Str}, fs = x → (plainF x).map (fun f : Str => decide (f = ("word" : Str))) = [true] → isW (strV ((valsF fs ps).headD .non)) = true := fun {x} e h => by
    rw [e, h] at hv
    rw [e]
    generalize valsF x ps = vs at hv
    cases hv with
    | @cons _ v _ _ h1 _ =>
      cases v with
      | str y => exact h1
      | _ => cases h1
  match bs, hl with
  | [], hl =>
    have t0 : ∀ p ∈ fieldsT, nbF p.2 = 0 → (p.1, (plainF p.2).map fun f : Str => decide (f = ("word" : Str))) ∈ plainT := by decide +kernel
    have : plainG w (valsF fs ps) := ⟨_, t0 _ hfs hl.symm, hv⟩
    cases d <;> exact this
  | [b], hl =>
    obtain ⟨e, rfl, hr⟩ := hb b (by simp)
    have t1 : ∀ p ∈ fieldsT, nbF p.2 = 1 → p.2 = [("word" : Str), "block"] := by decide +kernel
    exact ⟨one (t1 _ hfs hl.symm) (by decide +kernel), hr⟩
  | [b, c], hl =>
    obtain ⟨e, rfl, hr⟩ := hb b (by simp)
    obtain ⟨e2, he, hr2⟩ := hb c (by simp)
    obtain rfl : e = e2 := Nat.succ.inj he
    have t2 : ∀ p ∈ fieldsT, nbF p.2 = 2 → (p.1 = "when" → p.2 = [("word" : Str), "block", "block"]) := by decide +kernel
    by_cases hw : w = "when"
    · show RowG (e + 1) (if w = "when" then _ else _)
      rw [if_pos hw]
      exact ⟨one (t2 _ hfs hl.symm hw) (by decide +kernel), hr, hr2⟩
    · show RowG (e + 1) (if w = "when" then _ else _)
      rw [if_neg hw]
      exact ⟨hr, hr2⟩
  | _ :: _ :: _ :: _, hl => simp only [List.length_cons] at hl; omega
theorem blocks_mk {w : Str} {vs : List V} : ∀ {bs : List (List Row)}, bs.length ≤ 2 → blocks (mkRowP w vs bs) = bs
  | [], _ => rfl
  | [b], _ => rfl
  | [b, c], _ => by
    show blocks (if w = "when" then _ else _) = _
    split <;> rfl
  | _ :: _ :: _ :: _, h => by simp only [List.length_cons] at h; omega
section
variable {L : List Str}
theorem rdBlks_num {Rec : Nat → List Row → Nat → Prop} {n j m a c : Nat} {bs : List (List Row)} (h : RdBlks Rec L n j m a bs c) : bs.length = m := by
  induction h with
  | nil => rfl
  | cons _ _ _ _ ih => rw [List.length_cons, ih]
theorem rdBlks_all {Rec : Nat → List Row → Nat → Prop} {S : List Row → Prop} {n j m a c : Nat} {bs : List (List Row)} (h : RdBlks Rec L n j m a bs c) (hR : ∀ a b c, Rec a b c → S b) : ∀ b ∈ bs, S b := by
  induction h with
  | nil => intro b hb; cases hb
  | cons _ _ h1 _ ih =>
    intro b hb
    rcases List.mem_cons.mp hb with rfl | hb
    · exact hR _ _ _ h1
    · exact ih b hb
theorem rdRows_goG {d D n a c : Nat} {rs : List Row} (row : ∀ {a r c}, RdRow (RdRows L d (n + 1)) L n a r c → RowG D r) (h : RdRows L (d + 1) n a rs c) : ∀ r ∈ rs, RowG D r := by
  rcases h with ⟨_, e, _⟩ | ⟨_, r, rest, a1, e, h1, h2⟩
  · subst e; intro r hr; cases hr
  · subst e
    have k : ∀ r ∈ rest, RowG D r := by
      clear h1
      induction h2 with
      | stop => intro r hr; cases hr
      | step _ h3 _ ih =>
        intro r' hr
        rcases List.mem_cons.mp hr with rfl | hr
        · exact row h3
        · exact ih r' hr
    intro r' hr
    rcases List.mem_cons.mp hr with rfl | hr
    · exact row h1
    · exact k r' hr
theorem rdRows_G : ∀ {d n a c : Nat} {rs : List Row}, RdRows L (d + 1) n a rs c → ∀ r ∈ rs, RowG d r := by
  intro d
  induction d with
  | zero =>
    intro n a c rs h
    have row : ∀ {a r c}, RdRow (RdRows L 0 (n + 1)) L n a r c → RowG 0 r := fun {a r c} ⟨z, w, fs, ps, bs, hz, hd, hb, e⟩ => by
      subst e
      exact mkRow_G hd (rdBlks_num hb) (rdBlks_all hb (S := fun b => ∃ e, (0 : Nat) = e + 1 ∧ ∀ r ∈ b, RowG e r) fun a b c h => h.elim)
    exact rdRows_goG row h
  | succ d ih =>
    intro n a c rs h
    have row : ∀ {a r c}, RdRow (RdRows L (d + 1) (n + 1)) L n a r c → RowG (d + 1) r := fun {a r c} ⟨z, w, fs, ps, bs, hz, hd, hb, e⟩ => by
      subst e
      exact mkRow_G hd (rdBlks_num hb) (rdBlks_all hb (S := fun b => ∃ e, d + 1 = e + 1 ∧ ∀ r ∈ b, RowG e r) fun a b c h => ⟨d, rfl, ih h⟩)
    exact rdRows_goG row h
end
theorem walkL_cons (d : Nat) (p : List Int) (rs : List Row) : (walkL d p rs).length = (rs.map fun r => (rowW d [] (r, 0)).length).sum := by
  have key : ∀ (d : Nat) (p : List Int) (r : Row) (i : Nat), (rowW d p (r, i)).length = (rowW d [] (r, 0)).length := by
    intro d
    induction d with
    | zero => intro p r i; rfl
    | succ d ih =>
      intro p r i
      show ((_ :: _ : List (List Int × Row))).length = ((_ :: _ : List (List Int × Row))).length
      rw [List.length_cons, List.length_cons, List.length_flatMap, List.length_flatMap]
      congr 2
      refine List.map_congr_left fun q _ => ?_
      rw [List.length_flatMap, List.length_flatMap]
      congr 1
      refine List.map_congr_left fun x _ => ?_
      obtain ⟨r2, j⟩ := x
      exact (ih _ r2 j).trans (ih _ r2 j).symm
  unfold walkL
  rw [List.length_flatMap]
  have : (rs.zipIdx.map fun a => (rowW d p a).length) = rs.map fun r => (rowW d [] (r, 0)).length := by
    rw [show (fun a : Row × Nat => (rowW d p a).length) = (fun r => (rowW d [] (r, 0)).length) ∘ Prod.fst from funext fun a => key d p a.1 a.2, ← List.map_map, List.zipIdx_map_fst]
  rw [this]
theorem rowW_succ (d : Nat) (p : List Int) (r : Row) (i : Nat) : (rowW (d + 1) p (r, i)).length = 1 + ((blocks r).map fun b => (walkL d [] b).length).sum := by
  show ((_ :: _ : List (List Int × Row))).length = _
  rw [List.length_cons, List.length_flatMap, Nat.add_comm]
  congr 1
  have : ((blocks r).zipIdx.map fun q => (q.1.zipIdx.flatMap (rowW d (p ++ [(i : Int), (q.2 : Int)]))).length) = (blocks r).map fun b => (walkL d [] b).length := by
    have e : (fun q : List Row × Nat => (q.1.zipIdx.flatMap (rowW d (p ++ [(i : Int), (q.2 : Int)]))).length) = (fun b => (walkL d [] b).length) ∘ Prod.fst := funext fun q => (walkL_cons d (p ++ [(i : Int), (q.2 : Int)]) q.1).trans (walkL_cons d [] q.1).symm
    rw [e, ← List.map_map, List.zipIdx_map_fst]
  rw [this]
section
variable {L : List Str}
theorem rdRows_goC {d D n a c : Nat} {rs : List Row} (row : ∀ {a r c}, RdRow (RdRows L d (n + 1)) L n a r c → (rowW D [] (r, 0)).length + a ≤ c) (h : RdRows L (d + 1) n a rs c) : (rs.map fun r => (rowW D [] (r, 0)).length).sum + a ≤ c := by
  rcases h with ⟨_, e, e2⟩ | ⟨_, r, rest, a1, e, h1, h2⟩
  · subst e; simp; omega
  · subst e
    rw [List.map_cons, List.sum_cons]
    have k1 := row h1
    have k2 : (rest.map fun r => (rowW D [] (r, 0)).length).sum + a1 ≤ c := by
      clear h1 k1
      induction h2 with
      | stop => simp
      | step _ h3 _ ih =>
        have := row h3
        rw [List.map_cons, List.sum_cons]
        omega
    omega
theorem rdRows_cnt : ∀ {d n a c : Nat} {rs : List Row}, RdRows L (d + 1) n a rs c → ∀ p, (walkL d p rs).length + a ≤ c := by
  intro d
  induction d with
  | zero =>
    intro n a c rs h p
    have row : ∀ {a r c}, RdRow (RdRows L 0 (n + 1)) L n a r c → (rowW 0 [] (r, 0)).length + a ≤ c := fun {a r c} ⟨z, w, fs, ps, bs, hz, hd, hb, e⟩ => by
      have := rdBlks_le (fun _ _ _ h => h.elim) hb
      show 1 + a ≤ c
      omega
    rw [walkL_cons]
    exact rdRows_goC row h
  | succ d ih =>
    intro n a c rs h p
    have blk : ∀ {j m a c bs}, RdBlks (RdRows L (d + 1) (n + 1)) L n j m a bs c → (bs.map fun b => (walkL d [] b).length).sum + a ≤ c := fun {j m a c bs} h => by
      induction h with
      | nil => simp
      | @cons j m a a1 a2 a3 b bs c1 c2 h1 _ ih2 =>
        have := ih h1 []
        rw [List.map_cons, List.sum_cons]
        by_cases hj : j = 1
        · have := (c1 hj).2; omega
        · have := c2 hj; omega
    have row : ∀ {a r c}, RdRow (RdRows L (d + 1) (n + 1)) L n a r c → (rowW (d + 1) [] (r, 0)).length + a ≤ c := fun {a r c} ⟨z, w, fs, ps, bs, hz, hd, hb, e⟩ => by
      have two : ∀ p ∈ fieldsT, nbF p.2 ≤ 2 := by decide +kernel
      have h2 : nbF fs ≤ 2 := two _ (fieldsOf_some hd.fd)
      have := blk hb
      rw [rowW_succ, e, blocks_mk (by rw [rdBlks_num hb]; exact h2)]
      omega
    rw [walkL_cons]
    exact rdRows_goC row h
end
end Ft
set_option Elab.async false
set_option linter.all false
set_option maxRecDepth 100000
set_option maxHeartbeats 1000000
namespace Ft
open PySem L2
section
variable {P : Program} {w : World} {K : PySem.W.Frag} {mg : Str → Option Value} {base : Heap}
def spBlocksG : Sp := fun vs H Q _ => ∃ (v : V) (ok : Addr → Prop) (kk : Bool → Bool → Prop) (d : Nat) (r : Row), vs = [v] ∧ RowG d r ∧ RowAt ok kk H d v r ∧
  ∀ H' p ys, Same H H' → H p = none → H' p = some (.lst ys) → Paired (BlkAt ok kk H d) ys (blocks r) → Q (.ref p) H'
theorem ok_LBlocksG {f : Addr} {fd : FuncData} {k : Nat} (F : Fun K "_law_blocks" "_law_blocks" sLBlocks f fd) (B : Bl mg) : FnOk P w K mg base CX0 (k + 1) f fd ["_law_row_here"] spBlocksG := by
  refine F.ok scLBlocks (fun vs H Q E h => ?_) (fun cdv A outer s H vs Q E hr h => ?_)
  · obtain ⟨v, ok, kk, d, r, rfl, _⟩ := h
    rfl
  obtain ⟨v, ok, kk, d, r, rfl, hok, hat, q⟩ := h
  refine ⟨_, (pss_one (ps_ret (pe_dget2 (hu_of hr) (pe_disp (pps_cons pe_str (pe_mid (pe_callTy call_list_of (by rfl) B.list (by decide +kernel) (pa_cons (pe_slice sl_seq (pv 0) (po_some pe_int) po_none) pa_nil))) (pps_cons pe_str (pe_mid (pe_callTy call_list_of (by rfl) B.list (by decide +kernel) (pa_cons (pe_slice sl_seq (pv 0) (po_some pe_int) po_none) pa_nil))) (pps_cons pe_str (pe_mid (pe_callTy call_list_of (by rfl) B.list (by decide +kernel) (pa_cons (pe_slice sl_seq (pv 0) (po_some pe_int) po_none) pa_nil))) pps_nil))) (by rfl) (by rfl) (fun z => by cases z) (by decide)) (pe_ix ix_seq (pv 0) pe_int (fun _ _ => rfl)) (pe_lst pa_nil) ⟨by rfl, by rfl, by rfl, by rfl⟩))), ?_⟩
  obtain ⟨rest, ⟨a, kd, rfl, oka, kka, ha⟩, hrest⟩ := rowVG_of hok hat
  refine fun p np => ?_
  have s0 : Same H (upd H p (.dK [])) := Same.new np
  have hp0 : (upd H p (.dK [])) p = some (.dK []) := upd_same
  generalize hG : upd H p _ = G0 at *
  have mid : ∀ {G : Hp}, Same H G → G p = some (.dK []) → ∀ (n : Int) (zs : List V), (n = 1 ∧ zs = rest) ∨ (n = 2 ∧ zs = rest.drop 1) → True := fun _ _ _ _ _ => trivial
  refine ⟨fun v H' => ∃ l, v = .ref l ∧ H l = none ∧ H' l = some (.lst (rest.drop 1)) ∧ Same G0 H', ?_, ?_⟩
  · refine ⟨_, rfl, 2, rfl, rSl2 (s0 _ _ ha) fun t G1 s1 nt ht => ?_⟩
    exact ⟨t, _, rfl, sqa_of (sq_of ht), fun l nl => ⟨l, rfl, Same.free (Same.trans s0 s1) nl, upd_same, Same.trans s1 (Same.new nl)⟩⟩
  rintro _ G1 ⟨l1, rfl, n1, h1, s1⟩
  refine ⟨fun v H' => ∃ l, v = .ref l ∧ H l = none ∧ H' l = some (.lst (rest.drop 1)) ∧ Same G1 H', ?_, ?_⟩
  · refine ⟨_, rfl, 2, rfl, rSl2 (s1 _ _ (s0 _ _ ha)) fun t G1' s1' nt ht => ?_⟩
    exact ⟨t, _, rfl, sqa_of (sq_of ht), fun l nl => ⟨l, rfl, Same.free (Same.trans s0 (Same.trans s1 s1')) nl, upd_same, Same.trans s1' (Same.new nl)⟩⟩
  rintro _ G2 ⟨l2, rfl, n2, h2, s2⟩
  refine ⟨fun v H' => ∃ l, v = .ref l ∧ H l = none ∧ H' l = some (.lst rest) ∧ Same G2 H', ?_, ?_⟩
  · refine ⟨_, rfl, 1, rfl, rSl1 (s2 _ _ (s1 _ _ (s0 _ _ ha))) fun t G1' s1' nt ht => ?_⟩
    exact ⟨t, _, rfl, sqa_of (sq_of ht), fun l nl => ⟨l, rfl, Same.free (Same.trans s0 (Same.trans s1 (Same.trans s2 s1'))) nl, upd_same, Same.trans s1' (Same.new nl)⟩⟩
  rintro _ G3 ⟨l3, rfl, n3, h3, s3⟩
  have s03 : Same G0 G3 := Same.trans s1 (Same.trans s2 s3)
  have hp3 : G3 p = some (.dK []) := s03 _ _ hp0
  refine ⟨hp3, blkD l1 l2 l3, rfl, by show 3 ≤ 15; decide, p, rfl, .inl ⟨_, .inl upd_same⟩, ?_⟩
  have sG : Same H (upd G3 p (.dK (mergeK [] (blkD l1 l2 l3)))) := Same.upN (Same.trans s0 s03) np
  have hk : ∀ {l : Addr} {xs : List V}, H l = none → G3 l = some (.lst xs) → (upd G3 p (.dK (mergeK [] (blkD l1 l2 l3)))) l = some (.lst xs) := fun {l xs} _ h => by
    rw [upd_ne (fun e => by rw [e, hp3] at h; cases h)]; exact h
  have k1 := hk n1 (s3 _ _ (s2 _ _ h1))
  have k2 := hk n2 (s3 _ _ h2)
  have k3 := hk n3 h3
  have hpD : (upd G3 p (.dK (mergeK [] (blkD l1 l2 l3)))) p = some (.dK (mergeK [] (blkD l1 l2 l3))) := upd_same
  generalize hG4 : upd G3 p _ = G4 at *
  refine ⟨_, rfl, rIx_seq (sq_of (sG _ _ ha)) (atI_nat (j := 0) rfl) ⟨Nat.zero_le _, fun e0 ne0 => ?_⟩⟩
  have s5 : Same G4 (upd G4 e0 (.lst [])) := Same.new ne0
  refine ⟨_, .inl ⟨_, Sum.inr (rowWord r), .inl (s5 _ _ hpD), rfl, rfl⟩, ?_⟩
  have sE : Same H (upd G4 e0 (.lst [])) := Same.trans sG s5
  have blk : ∀ {x : V} {b : List Row}, FlAt ok kk H d x (.blk b) → BlkAt ok kk H d x b := fun h => h
  have plain : ∀ {z : Str} {fs : List V}, r = .plain z fs → plainG z fs → Q ((valV (mergeK [] (blkD l1 l2 l3)) (Sum.inr z)).getD (.ref e0)) (upd G4 e0 (.lst [])) := fun {z fs} er hp => by
    obtain ⟨ks, hk, _⟩ := hp
    have nn : ∀ p ∈ plainT, p.1 ≠ "make" ∧ p.1 ≠ "when" ∧ p.1 ≠ "try" := by decide +kernel
    obtain ⟨m1, m2, m3⟩ := nn _ hk
    rw [blkD_none l1 l2 l3 m1 m2 m3]
    exact q _ e0 [] sE (Same.free sG ne0) upd_same (by rw [er]; exact .nil)
  cases d with
  | zero =>
    cases r with
    | plain z fs => exact plain rfl hok
    | _ => exact hok.elim
  | succ d =>
    cases r with
    | plain z fs => exact plain rfl hok
    | make n b =>
      show Q ((valV (mergeK [] (blkD l1 l2 l3)) (Sum.inr "make")).getD (.ref e0)) _
      rw [blkD_make]
      cases hrest with
      | cons r1 t =>
        cases t with
        | cons r2 t =>
          cases t
          exact q _ l1 _ sE n1 (s5 _ _ k1) (.cons (blk r2) .nil)
    | when n b c =>
      show Q ((valV (mergeK [] (blkD l1 l2 l3)) (Sum.inr "when")).getD (.ref e0)) _
      rw [blkD_when]
      cases hrest with
      | cons r1 t =>
        cases t with
        | cons r2 t =>
          cases t with
          | cons r3 t =>
            cases t
            exact q _ l2 _ sE n2 (s5 _ _ k2) (.cons (blk r2) (.cons (blk r3) .nil))
    | try_ b c =>
      show Q ((valV (mergeK [] (blkD l1 l2 l3)) (Sum.inr "try")).getD (.ref e0)) _
      rw [blkD_try]
      cases hrest with
      | cons r2 t =>
        cases t with
        | cons r3 t =>
          cases t
          exact q _ l3 _ sE n3 (s5 _ _ k3) (.cons (blk r2) (.cons (blk r3) .nil))
end
end Ft
set_option Elab.async false
set_option linter.all false
set_option maxRecDepth 100000
set_option maxHeartbeats 4000000
namespace Ft
open PySem L2
section
variable {P : Program} {w : World} {K : PySem.W.Frag} {mg : Str → Option Value} {base : Heap}
abbrev sLWalked : Stmt := topS 41
theorem scLWalked : FnScope ["_law_rows", "_law_ahead", "_law_found", "_law_k", "_law_row_here", "_law_nth", "_law_block_here"] ["_law_rows", "_law_ahead"] (defScope sLWalked) := ⟨rfl, rfl, rfl, by decide +kernel, rfl, by decide +kernel, by decide +kernel⟩
end
end Ft
set_option Elab.async false
set_option linter.all false
set_option maxRecDepth 100000
set_option maxHeartbeats 1000000
namespace Ft
open PySem L2
theorem flat_take {α β : Type} {f : α → List β} {l : List α} (i : Nat) : ((l.take i).flatMap f).length ≤ (l.flatMap f).length := by
  have e : l.flatMap f = (l.take i).flatMap f ++ (l.drop i).flatMap f := by rw [← List.flatMap_append, List.take_append_drop]
  rw [e, List.length_append]
  omega
section
variable {P : Program} {w : World} {K : PySem.W.Frag} {mg : Str → Option Value} {base : Heap}
def spWalkedG (d : Nat) : Sp := fun vs H Q _ => ∃ (v pv : V) (ok : Addr → Prop) (kk : Bool → Bool → Prop) (rs : List Row) (p : List Int), vs = [v, pv] ∧ RowsAt ok kk H d v rs ∧ (∀ r ∈ rs, RowG d r) ∧ (walkL d p rs).length ≤ 15000000 ∧ PathAt H pv p ∧ p.length + 2 * d ≤ 1000 ∧
  ∀ H' l zs, Same H H' → H l = none → H' l = some (.lst zs) → Paired (WAt ok kk H' d) zs (walkL d p rs) → Q (.ref l) H'
theorem ok_LWalkedG {f : Addr} {fd : FuncData} {k d : Nat} {spF : Sp} (F : Fun K "_law_walked" "_law_walked" sLWalked f fd) (B : Bl mg) (hk : 1 ≤ k) (gLBlocks : Own P w K mg base 1 "_law_blocks" ["_law_row_here"] spBlocksG)
    (gLWalked : Own P w K mg base k "_law_walked" ["_law_rows", "_law_ahead"] spF) (hF : ∀ e, d = e + 1 → spF = spWalkedG e) : FnOk P w K mg base CX0 (k + 1) f fd ["_law_rows", "_law_ahead"] (spWalkedG d) := by
  refine F.ok scLWalked (fun vs H Q E h => ?_) (fun cdv A outer s H vs Q E hr h => ?_)
  · obtain ⟨v, pv, ok, kk, rs, p, rfl, _⟩ := h
    rfl
  obtain ⟨v, pv, ok, kk, rs, p, rfl, hrs, hok, hcn, ⟨pa, rfl, hpa⟩, hpl, q⟩ := h
  refine ⟨_, (pss_cons (ps_set (i := 2) scLWalked.nd rfl (by first | exact Or.inl rfl | exact Or.inr rfl) (pe_lst pa_nil))
      (pss_cons (ps_for PassesOwn.never rfl (pi_enumQ (by rfl) B.enumerate (pa_cons (pv 0) pa_nil)) (pg_tup (by rfl) (pgs_cons (pg_name (i := 3) scLWalked.nd rfl (by first | exact Or.inl rfl | exact Or.inr rfl)) (pgs_cons (pg_name (i := 4) scLWalked.nd rfl (by first | exact Or.inl rfl | exact Or.inr rfl)) pgs_nil))) (pss_cons (ps_expr (pe_bm PySem.F.plainAttrs_list PySem.F.slot_list_append PySem.F.type_list_append mt_append (pv 2) (pa_cons (pe_tup (pa_cons (pe_mid (pe_op op_catA (pv 1) (pe_tup (pa_cons (pv 3) pa_nil)))) (pa_cons (pv 4) pa_nil))) pa_nil)))
      (pss_one (ps_for PassesOwn.never rfl (pi_enumQ (by rfl) B.enumerate (pa_cons (pe_own gLBlocks (hr.mono (by omega)) (by rfl) (pa_cons (pv 4) pa_nil)) pa_nil)) (pg_tup (by rfl) (pgs_cons (pg_name (i := 5) scLWalked.nd rfl (by first | exact Or.inl rfl | exact Or.inr rfl)) (pgs_cons (pg_name (i := 6) scLWalked.nd rfl (by first | exact Or.inl rfl | exact Or.inr rfl)) pgs_nil))) (pss_one (ps_expr (pe_bm PySem.F.plainAttrs_list PySem.F.slot_list_extend PySem.F.type_list_extend mt_extend (pv 2) (pa_cons (pe_own gLWalked (hr.mono (by omega)) (by rfl) (pa_cons (pv 6) (pa_cons (pe_mid (pe_op op_catA (pv 1) (pe_tup (pa_cons (pv 3) (pa_cons (pv 5) pa_nil))))) pa_nil))) pa_nil))))))))
      (pss_one (ps_ret (pv 2))))), ?_⟩
  refine ⟨Nat.zero_le _, fun l nl => ?_⟩
  have s0 : Same H (upd H l (.lst [])) := Same.new nl
  have hrs2 : RowsAt (fun x => ok x ∧ x ≠ l) kk H d v rs := hrs.to (Keep.mono fun x k hx => ⟨k, fun e => hx (by rw [e]; exact nl)⟩)
  obtain ⟨xs, ⟨a, kd, rfl, oka, kka, ha⟩, hxs⟩ := hrs2
  refine ⟨_, rfl, a, kd, xs, rfl, sq_of (s0 _ _ ha), ?_⟩
  refine for_it walk_enumQ (fun i σ H' => Same H H' ∧ (∃ v3 v4 v5 v6, σ = [some (.ref a), some (.ref pa), some (.ref l), v3, v4, v5, v6]) ∧ ∃ zs, H' l = some (.lst zs) ∧ Paired (WAt (fun x => ok x ∧ x ≠ l) kk H' d) zs ((rs.zipIdx.take i).flatMap (rowW d p)))
    ⟨s0, ⟨none, none, none, none, rfl⟩, [], upd_same, .nil⟩ (fun i σ H' _ ⟨sm, _⟩ => sq_of (sm _ _ ha)) ?_ ?_
  · rintro i x σ H1 H2 hi ⟨sm, ⟨v3, v4, v5, v6, rfl⟩, zs, hl, hzs⟩ ⟨T, x1, x2, rfl, nT, rfl, e1, e2⟩
    have e1' : x1 = .int (i : Nat) := (Option.some.inj e1).symm
    subst e1'
    obtain ⟨r, hr', hrow⟩ := paired_get hxs e2
    have rok := hok r (List.mem_of_getElem? hr')
    have b3 := blocks_len2 r
    have ez : rs.zipIdx[i]? = some (r, i) := by rw [List.getElem?_zipIdx, hr']; simp
    have part : ((rs.zipIdx.take i).flatMap (rowW d p)).length + (1 + ((blocks r).zipIdx.flatMap (blkW d p i)).length) ≤ 15000000 := by
      have h1 := flat_take (f := rowW d p) (l := rs.zipIdx) (i + 1)
      rw [List.take_add_one, ez, List.flatMap_append, List.length_append] at h1
      rw [show ((some (r, i) : Option (Row × Nat)).toList.flatMap (rowW d p)) = (p ++ [(i : Int)], r) :: (blocks r).zipIdx.flatMap (blkW d p i) by
        show List.flatMap (rowW d p) [(r, i)] = _
        rw [List.flatMap_cons, List.flatMap_nil, List.append_nil, rowWG_eq rok], List.length_cons] at h1
      have h2 : (rs.zipIdx.flatMap (rowW d p)).length ≤ 15000000 := hcn
      omega
    have s2 : Same H1 (upd H1 T (.tup [.int (i : Nat), x2])) := Same.new nT
    refine ⟨T, _, rfl, SqT.of upd_same, rfl, _, _, rfl, _, _, rfl, rfl, ?_⟩
    have lz : zs.length + (1 + ((blocks r).zipIdx.flatMap (blkW d p i)).length) ≤ 15000000 := by rw [paired_len hzs]; exact part
    generalize hG : upd H1 T _ = G at *
    have sG : Same H G := Same.trans sm s2
    have hlG : G l = some (.lst zs) := s2 _ _ hl
    have hzsG := paired_imp hzs fun v q h => WAt.to h (KT.same s2)
    -- found.append((path + (k,), row))
    refine ⟨_, rfl, .inl ⟨rfl, _, SqL.of hlG⟩, ⟨fun v H' => ∃ b, v = .ref b ∧ H' b = some (.tup ((p ++ [(i : Int)]).map V.int)) ∧ Same G H', ?_, ?_⟩⟩
    · refine ⟨_, rfl, _, rfl, (by show 1 ≤ sizeLine; decide), fun t1 nt1 => ?_⟩
      refine ⟨pa, t1, p.map V.int, [.int (i : Nat)], rfl, rfl, SqT.of (Same.new nt1 _ _ (sG _ _ hpa)), SqT.of upd_same, smallE (by rw [List.length_map]; simp; omega), fun e => ?_, fun _ e => (nomatch e), fun _ _ t2 nt2 => ?_⟩
      · have ep : p = [] := List.map_eq_nil_iff.mp e
        subst ep
        exact ⟨t1, rfl, upd_same, Same.new nt1⟩
      · exact ⟨t2, rfl, by rw [upd_same, List.map_append]; rfl, Same.trans (Same.new nt1) (Same.new nt2)⟩
    rintro hv G1 ⟨hb, rfl, hhb, s3⟩
    refine ⟨_, rfl, (by show 2 ≤ sizeLine; decide), fun t3 nt3 => ?_⟩
    have s4 : Same G (upd G1 t3 (.tup [.ref hb, x2])) := Same.trans s3 (Same.new nt3)
    have hhb4 : (upd G1 t3 (.tup [.ref hb, x2])) hb = some (.tup ((p ++ [(i : Int)]).map V.int)) := Same.new nt3 _ _ hhb
    have ht3 : (upd G1 t3 (.tup [.ref hb, x2])) t3 = some (.tup [.ref hb, x2]) := upd_same
    generalize hG2 : upd G1 t3 _ = G2 at *
    have sG2 : Same H G2 := Same.trans sG s4
    have hl2 : G2 l = some (.lst zs) := s4 _ _ hlG
    refine ⟨l, zs, _, rfl, rfl, hl2, big (by omega), ?_⟩
    have kt2 : KT (fun x => ok x ∧ x ≠ l) (fun x => ok x ∧ x ≠ l) G2 (upd G2 l (.lst (zs ++ [.ref t3]))) := KT.lst hl2 (fun x k => k.2) fun x k => k
    have w3 : WAt (fun x => ok x ∧ x ≠ l) kk G2 d (.ref t3) (p ++ [(i : Int)], r) := ⟨t3, _, _, rfl, ht3, ⟨hb, rfl, hhb4⟩, hrow.to (Keep.fr (Fr.same sG2) fun _ k => k)⟩
    have hzs3 : Paired (WAt (fun x => ok x ∧ x ≠ l) kk (upd G2 l (.lst (zs ++ [.ref t3]))) d) (zs ++ [.ref t3]) ((rs.zipIdx.take i).flatMap (rowW d p) ++ [(p ++ [(i : Int)], r)]) :=
      paired_app (w3.to kt2) (paired_imp hzsG fun v q h => (h.to (KT.same s4)).to kt2)
    have hl3 : (upd G2 l (.lst (zs ++ [.ref t3]))) l = some (.lst (zs ++ [.ref t3])) := upd_same
    have sG3 : Same H (upd G2 l (.lst (zs ++ [.ref t3]))) := Same.upN sG2 nl
    generalize hG3 : upd G2 l _ = G3 at *
    -- the blocks
    have hrow3 : RowAt (fun x => ok x ∧ x ≠ l) kk G3 d x2 r := hrow.to (Keep.fr (Fr.same sG3) fun _ k => k)
    refine ⟨_, rfl, x2, (fun x => ok x ∧ x ≠ l), kk, d, r, rfl, rok, hrow3, fun G4 bl ys s5 nb hbl hys => ?_⟩
    have lb : ys.length ≤ 2 := by rw [paired_len hys]; exact b3
    have lbl : bl ≠ l := fun e => by rw [e, hl3] at nb; cases nb
    refine ⟨bl, true, ys, rfl, sq_of hbl, ?_⟩
    have sG4 : Same H G4 := Same.trans sG3 s5
    refine for_it walk_enumQ (fun j σ H' => Same H H' ∧ H' bl = some (.lst ys) ∧ (∀ b xs, G3 b = some (.tup xs) → H' b = some (.tup xs)) ∧ (∃ v5 v6, σ = [some (.ref a), some (.ref pa), some (.ref l), some (.int (i : Nat)), some x2, v5, v6]) ∧
        ∃ zs, H' l = some (.lst zs) ∧ Paired (WAt (fun x => ok x ∧ x ≠ l) kk H' d) zs ((rs.zipIdx.take i).flatMap (rowW d p) ++ [(p ++ [(i : Int)], r)] ++ ((blocks r).zipIdx.take j).flatMap (blkW d p i)) ∧ Keep (fun x => ok x ∧ x ≠ l) (fun x => ok x ∧ x ≠ l) G3 H')
      ⟨sG4, hbl, fun b xs e => s5 _ _ e, ⟨v5, v6, rfl⟩, zs ++ [.ref t3], s5 _ _ hl3, ?_, Keep.fr (Fr.same s5) fun _ k => k⟩ (fun j σ H' _ ⟨_, h, _⟩ => sq_of (kd := true) h) ?_ ?_
    · rw [List.take_zero, List.flatMap_nil, List.append_nil]
      exact paired_imp hzs3 fun v q h => h.to (KT.same s5)
    · rintro j y σ H3 H4 hj ⟨sm4, hbl4, htup4, ⟨w5, w6, rfl⟩, zs4, hl4, hzs4, kp4⟩ ⟨T2, y1, y2, rfl, nT2, rfl, f1, f2⟩
      have f1' : y1 = .int (j : Nat) := (Option.some.inj f1).symm
      subst f1'
      obtain ⟨b, hb', e, rfl, hrows⟩ := paired_get hys f2
      have eF := hF e rfl
      subst eF
      obtain ⟨e', he', hr8⟩ := blkG_ok rok (List.mem_of_getElem? hb')
      have ee : e = e' := Nat.succ.inj he'
      subst ee
      have s6 : Same H3 (upd H3 T2 (.tup [.int (j : Nat), y2])) := Same.new nT2
      refine ⟨T2, _, rfl, SqT.of upd_same, rfl, _, _, rfl, _, _, rfl, rfl, ?_⟩
      generalize hG5 : upd H3 T2 _ = G5 at *
      have hl5 : G5 l = some (.lst zs4) := s6 _ _ hl4
      have sH5 : Same H G5 := Same.trans sm4 s6
      refine ⟨_, rfl, .inl ⟨rfl, _, SqL.of hl5⟩, _, rfl, ⟨fun v H' => ∃ c, v = .ref c ∧ H' c = some (.tup ((p ++ [(i : Int), (j : Int)]).map V.int)) ∧ Same G5 H', ?_, ?_⟩⟩
      · refine ⟨_, rfl, _, rfl, _, rfl, (by show 2 ≤ sizeLine; decide), fun t1 nt1 => ?_⟩
        refine ⟨pa, t1, p.map V.int, [.int (i : Nat), .int (j : Nat)], rfl, rfl, SqT.of (Same.new nt1 _ _ (sH5 _ _ hpa)), SqT.of upd_same, smallE (by rw [List.length_map]; simp; omega), fun e => ?_, fun _ e => (nomatch e), fun _ _ t2 nt2 => ?_⟩
        · have ep : p = [] := List.map_eq_nil_iff.mp e
          subst ep
          exact ⟨t1, rfl, upd_same, Same.new nt1⟩
        · exact ⟨t2, rfl, by rw [upd_same, List.map_append]; rfl, Same.trans (Same.new nt1) (Same.new nt2)⟩
      rintro cv G6 ⟨c, rfl, hc, s7⟩
      have s36 : Same H3 G6 := Same.trans s6 s7
      have ezb : (blocks r).zipIdx[j]? = some (b, j) := by rw [List.getElem?_zipIdx, hb']; simp
      have part2 : ((rs.zipIdx.take i).flatMap (rowW (e + 1) p)).length + (1 + (((blocks r).zipIdx.take j).flatMap (blkW (e + 1) p i)).length + (walkL e (p ++ [(i : Int), (j : Int)]) b).length) ≤ 15000000 := by
        have h1 := flat_take (f := blkW (e + 1) p i) (l := (blocks r).zipIdx) (j + 1)
        rw [List.take_add_one, ezb, List.flatMap_append, List.length_append] at h1
        rw [show ((some (b, j) : Option (List Row × Nat)).toList.flatMap (blkW (e + 1) p i)) = walkL e (p ++ [(i : Int), (j : Int)]) b by
          show List.flatMap (blkW (e + 1) p i) [(b, j)] = _
          rw [List.flatMap_cons, List.flatMap_nil, List.append_nil]
          rfl] at h1
        omega
      have hrows6 : RowsAt (fun x => ok x ∧ x ≠ l) kk G6 e y2 b := hrows.to (kp4.trans (Keep.fr (Fr.same s36) fun _ k => k))
      refine ⟨y2, .ref c, (fun x => ok x ∧ x ≠ l), kk, b, p ++ [(i : Int), (j : Int)], rfl, hrows6, hr8, (by have := part2; omega), ⟨c, rfl, hc⟩, by simp; omega, fun G7 l2 zs2 s8 nl2 hl2' hzs2 => ?_⟩
      have hl7 : G7 l = some (.lst zs4) := s8 _ _ (s7 _ _ hl5)
      have s37 : Same H3 G7 := Same.trans s36 s8
      have lz4 : zs4.length + zs2.length ≤ 15000000 := by
        rw [paired_len hzs4, paired_len hzs2, List.length_append, List.length_append, List.length_singleton]
        have h2 := part2
        omega
      refine ⟨l, l2, zs4, zs2, rfl, rfl, hl7, hl2', bigE (by omega), ?_⟩
      have kt7 : KT (fun x => ok x ∧ x ≠ l) (fun x => ok x ∧ x ≠ l) G7 (upd G7 l (.lst (zs4 ++ zs2))) := KT.lst hl7 (fun x k => k.2) fun x k => k
      refine ⟨Same.upN (Same.trans sm4 s37) nl, ?_, fun b xs e => kt7.t _ _ (s37 _ _ (htup4 _ _ e)), ⟨_, _, rfl⟩, zs4 ++ zs2, upd_same, ?_, (kp4.trans (Keep.fr (Fr.same s37) fun _ k => k)).trans kt7.k⟩
      · rw [upd_ne lbl]
        exact s37 _ _ hbl4
      · have ez : (blocks r).zipIdx[j]? = some (b, j) := by rw [List.getElem?_zipIdx, hb']; simp
        rw [List.take_add_one, ez, List.flatMap_append, ← List.append_assoc]
        refine paired_cat (paired_imp hzs4 fun v q h => (h.to (KT.same s37)).to kt7) ?_
        rw [show ((some (b, j) : Option (List Row × Nat)).toList.flatMap (blkW (e + 1) p i)) = walkL e (p ++ [(i : Int), (j : Int)]) b by
          show List.flatMap (blkW (e + 1) p i) [(b, j)] = _
          rw [List.flatMap_cons, List.flatMap_nil, List.append_nil]
          rfl]
        exact paired_imp hzs2 fun v q h => by
          obtain ⟨T', pv', rv', e1', e2', e3', e4'⟩ := h
          exact (show WAt (fun x => ok x ∧ x ≠ l) kk G7 (e + 1) v q from ⟨T', pv', rv', e1', e2', e3', rowAt_mono _ _ _ e4'⟩).to kt7
    · rintro σ H3 ⟨sm4, hbl4, htup4, ⟨w5, w6, rfl⟩, zs4, hl4, hzs4, kp4⟩
      refine ⟨sm4, ⟨_, _, _, _, rfl⟩, zs4, hl4, ?_⟩
      have ly : ys.length = (blocks r).length := paired_len hys
      rw [List.take_add_one, ez, List.flatMap_append]
      rw [show ((some (r, i) : Option (Row × Nat)).toList.flatMap (rowW d p)) = (p ++ [(i : Int)], r) :: (blocks r).zipIdx.flatMap (blkW d p i) by
        show List.flatMap (rowW d p) [(r, i)] = _
        rw [List.flatMap_cons, List.flatMap_nil, List.append_nil, rowWG_eq rok]]
      have et : (blocks r).zipIdx.take ys.length = (blocks r).zipIdx := List.take_of_length_le (by rw [List.length_zipIdx]; omega)
      rw [et, List.append_assoc] at hzs4
      exact hzs4
  · rintro σ H1 ⟨sm, ⟨v3, v4, v5, v6, rfl⟩, zs, hl, hzs⟩
    have et : rs.zipIdx.take xs.length = rs.zipIdx := List.take_of_length_le (by rw [List.length_zipIdx, paired_len hxs]; omega)
    rw [et] at hzs
    exact ⟨_, rfl, q _ l zs sm nl hl (paired_imp hzs fun v q h => h.to ⟨Keep.mono fun x k _ => k.1, fun b xs e => e⟩)⟩
theorem lwalkedG_ok {f : Addr} {fd : FuncData} (F : Fun K "_law_walked" "_law_walked" sLWalked f fd) (B : Bl mg) (m : mg "_law_walked" = some (.ref f)) (b : Binds K fd ["_law_rows", "_law_ahead"] []) (gLBlocks : Own P w K mg base 1 "_law_blocks" ["_law_row_here"] spBlocksG) :
    ∀ d : Nat, Own P w K mg base (2 + d) "_law_walked" ["_law_rows", "_law_ahead"] (spWalkedG d)
  | 0 => own_mk F m b (ok_LWalkedG (k := 1) F B (by omega) gLBlocks (own_mk F m b fn_false) (fun e h => absurd h (by omega)))
  | d + 1 => own_mk F m b (ok_LWalkedG (k := 2 + d) F B (by omega) gLBlocks (lwalkedG_ok F B m b gLBlocks d) (fun e h => by
      have : d = e := by omega
      rw [this]))
end
end Ft
set_option Elab.async false
set_option linter.all false
set_option maxRecDepth 100000
set_option maxHeartbeats 4000000
namespace Ft
open PySem L2
theorem same_fr {G H H' : Hp} {ok : Addr → Prop} (s : Same G H) (f : Fr ok H H') (h : ∀ b, G b ≠ none → ok b) : Same G H' := fun b o e => f b o (h b (by rw [e]; exact fun z => nomatch z)) (s b o e)
theorem nn_ne {G : Hp} {a b : Addr} (ha : G a = none) (hb : G b ≠ none) : b ≠ a := fun e => hb (by rw [e]; exact ha)
theorem libR_of {lib : Lib} (h : LibOk lib) (hp : 0 < lib.length) : LibR lib := ⟨h.few, hp, h.nd, h.word, h.len, fun m hm r hr => (h.rows m hm r hr).ok⟩
theorem lk_rowsM (r v : V) : List.lookup ("rows" : Str) [(("rows_of" : Str), r), ("spots", v)] = none := by
  have h1 : (("rows" : Str) == "rows_of") = false := by decide
  have h2 : (("rows" : Str) == "spots") = false := by decide
  simp [List.lookup, h1, h2]
theorem lk_modulesM (r v : V) : List.lookup ("modules" : Str) [(("rows_of" : Str), r), ("spots", v)] = none := by
  have h1 : (("modules" : Str) == "rows_of") = false := by decide
  have h2 : (("modules" : Str) == "spots") = false := by decide
  simp [List.lookup, h1, h2]
end Ft
set_option Elab.async false
set_option linter.all false
set_option maxRecDepth 100000
set_option maxHeartbeats 4000000
set_option pp.maxSteps 2500
namespace Ft
open PySem L2
def XBad (C : Addr) (n : Str) (v : V) (H : Hp) (E : XK) : Prop := ∀ H1 d, Same H H1 → H1 d = none → E (.ref C) (some d) (upd H1 d (.xd [(n, v)]))
end Ft
set_option Elab.async false
set_option linter.all false
set_option maxRecDepth 100000
set_option maxHeartbeats 1000000
namespace Ft
open PySem PySem.Spec PyProof.Rows L2
section
variable {X : Cx} {pins : List (Addr × Obj)} {σ : L2.St} {H : Hp} {s : Shared} {E : Value → Shared → Prop}
theorem d_update {a b : Addr} {kvs more : List (Key × V)} {Q : Value → Shared → Prop} (I : Inv X pins σ H s) (e : H a = some (.dK kvs)) (e2 : H b = some (.dK more)) (ab : a ≠ b) (hz : kvs.length + more.length ≤ sizeLine)
    (h : ∀ s', Inv X pins σ (upd H a (.dK (mergeK kvs more))) s' → Q .none s') : wpAny (model X.prog X.w) X.A (call (.builtin "dict.update") [.ref a, .ref b]) Q E s := by
  obtain ⟨z, hd, vs, rel, dd⟩ := dk_of I.hok e
  obtain ⟨z2, hd2, vs2, rel2, dd2⟩ := dk_of I.hok e2
  refine call_meetsIn PySem.F.slot_dict_update dd.typeIs PySem.F.entry_dict_update (PySem.F.args_dict_update_2 _ _) (meets_dict_update (mixKind X.prog X.w) a b ab hd2)
    ⟨vs, vs2, dd, dd2, by rw [← rel.length, ← rel2.length]; exact hz, fun h' dd' _ hs => h _ ?_⟩
  have he : ∃ q, h'.get? a = some q := let ⟨q, _, _, hq, _⟩ := dd'; ⟨q, hq⟩
  exact d_write I (by rw [e]; exact True.intro) hs he (dk_new (Nat.le_trans (length_mergeK more kvs) hz) hd (KV.merge rel2 rel) dd')
def tDUpd (td ty : TE) : TE := fun σ H Q => td σ H fun x H1 => ∃ a, x = .ref a ∧ IsD H1 a ∧ ty σ H1 fun y H2 => ∃ b kvs more, y = .ref b ∧ H2 a = some (.dK kvs) ∧ H2 b = some (.dK more) ∧ a ≠ b ∧ kvs.length + more.length ≤ sizeLine ∧ Q .non (upd H2 a (.dK (mergeK kvs more)))
theorem pe_dupd {o e : Expr} {td ty : TE} {apos cpos : Pos} (ho : PE X o td) (he : PE X e ty) (m : M1 X o "update" apos e cpos) : PE X (.Call (.Attribute o "update" apos) [e] [] cpos) (tDUpd td ty) := by
  refine ⟨fun pins s σ H Q I h => ?_⟩
  refine wpAny_Call_method m.base m.few m.line PySem.F.plainAttrs_dict PySem.F.slot_dict_update PySem.F.type_dict_update (thn (ho.run pins s σ H _ I h) fun u s1 ⟨x, H1, I1, rx, a, ex, d, q1⟩ => ?_)
  subst ex
  obtain rfl : u = Value.ref a := rx
  obtain ⟨t1, t2, _⟩ := isD_at I1 d
  refine ⟨t1, t2, ?_⟩
  rw [m.trees]
  refine Calls.callWith_builtin rfl (Calls.evalArgs_plain (Calls.spliced_cons (thn (he.run pins s1 σ H1 _ I1 q1) fun iv s2 ⟨y, H2, I2, ry, b, kvs, more, ey, ea, eb, ab, hz, q2⟩ => Calls.spliced_nil ?_)))
  subst ey
  obtain rfl : iv = Value.ref b := ry
  exact d_update I2 ea eb ab hz fun s3 I3 => ⟨.non, _, I3, rfl, q2⟩
end
end Ft
set_option Elab.async false
set_option linter.all false
set_option maxRecDepth 100000
set_option maxHeartbeats 1000000
set_option pp.maxSteps 3000
set_option pp.deepTerms.threshold 8
namespace Ft
open PySem L2
def formT : List (Str × Str) := [("load", "ww"), ("pick", "www"), ("put", "wn"), ("copy", "ww"), ("part", "www"), ("drop", "w"), ("say", "n"), ("tell", "w"), ("seen", "ww"), ("fail", "n"), ("make", "wb"), ("call", "w"), ("when", "wbb"), ("try", "bb")]
def formOf (z : Str) : Option Str := (formT.find? fun p => decide (p.1 = z)).map (·.2)
def formV (z : Str) : V := match formOf z with
  | some f => .str f
  | none => .non
def kvF (l : List (Str × Str)) : List (Key × V) := l.map fun p => (Sum.inr p.1, .str p.2)
def formA : List (Str × Str) := [("load", "ww"), ("pick", "www"), ("put", "wn"), ("copy", "ww"), ("part", "www"), ("drop", "w"), ("say", "n")]
def formB : List (Str × Str) := [("tell", "w"), ("seen", "ww"), ("fail", "n"), ("make", "wb"), ("call", "w"), ("when", "wbb"), ("try", "bb")]
theorem form_all : mergeK (mergeK [] (kvF formA)) (mergeK [] (kvF formB)) = kvF formT := by rfl
theorem form_get (z : Str) : (valV (kvF formT) (Sum.inr z)).getD .non = formV z := by
  unfold valV kvF formV formOf
  rw [List.find?_map]
  have e : ((fun kv : Key × V => decide (kv.1 = Sum.inr z)) ∘ fun p : Str × Str => (((Sum.inr p.1 : Key), V.str p.2) : Key × V)) = fun p => decide (p.1 = z) := by
    funext p
    show decide ((Sum.inr p.1 : Key) = Sum.inr z) = _
    exact decide_eq_decide.mpr ⟨fun h => Sum.inr.inj h, fun h => by rw [h]⟩
  rw [e]
  cases formT.find? fun p => decide (p.1 = z) with
  | none => rfl
  | some m => rfl
section
variable {P : Program} {w : World} {K : PySem.W.Frag} {mg : Str → Option Value} {base : Heap}
abbrev sLForm : Stmt := topS 46
theorem scLForm : FnScope ["_law_word_here", "_law_forms"] ["_law_word_here"] (defScope sLForm) := ⟨rfl, rfl, rfl, by decide +kernel, rfl, by decide +kernel, by decide +kernel⟩
def spLForm : Sp := fun vs H Q _ => ∃ z : Str, vs = [.str z] ∧ ∀ H', Same H H' → Q (formV z) H'
theorem ok_LForm {f : Addr} {fd : FuncData} {k : Nat} (F : Fun K "_law_form" "_law_form" sLForm f fd) (B : Bl mg) : FnOk P w K mg base CX0 (k + 1) f fd ["_law_word_here"] spLForm := by
  refine F.ok scLForm (fun vs H Q E h => ?_) (fun cdv A outer s H vs Q E hr h => ?_)
  · obtain ⟨z, rfl, _⟩ := h
    rfl
  obtain ⟨z, rfl, q⟩ := h
  refine ⟨_, (pss_cons (ps_set (i := 1) scLForm.nd rfl (by first | exact Or.inl rfl | exact Or.inr rfl) (pe_disp (pps_cons pe_str pe_str (pps_cons pe_str pe_str (pps_cons pe_str pe_str (pps_cons pe_str pe_str (pps_cons pe_str pe_str (pps_cons pe_str pe_str (pps_cons pe_str pe_str pps_nil))))))) (by rfl) (by rfl) (fun z => by cases z) (by decide)))
      (pss_cons (ps_expr (pe_dupd (pv 1) (pe_disp (pps_cons pe_str pe_str (pps_cons pe_str pe_str (pps_cons pe_str pe_str (pps_cons pe_str pe_str (pps_cons pe_str pe_str (pps_cons pe_str pe_str (pps_cons pe_str pe_str pps_nil))))))) (by rfl) (by rfl) (fun z => by cases z) (by decide)) ⟨by rfl, by rfl, by rfl, by rfl⟩))
      (pss_one (ps_ret (pe_dget1 (hu_of hr) (pv 1) (pv 0) ⟨by rfl, by rfl, by rfl, by rfl⟩))))), ?_⟩
  refine fun p np => ⟨upd_same, kvF formA, rfl, by decide, ?_⟩
  have s1 : Same H (upd (upd H p (.dK [])) p (.dK (mergeK [] (kvF formA)))) := Same.upN (Same.new np) np
  have hp1 : (upd (upd H p (.dK [])) p (.dK (mergeK [] (kvF formA)))) p = some (.dK (mergeK [] (kvF formA))) := upd_same
  generalize hG1 : upd (upd H p _) p _ = G1 at *
  refine ⟨_, rfl, p, rfl, .inl ⟨_, .inl hp1⟩, fun p2 np2 => ⟨upd_same, kvF formB, rfl, by decide, ?_⟩⟩
  have s2 : Same G1 (upd (upd G1 p2 (.dK [])) p2 (.dK (mergeK [] (kvF formB)))) := Same.upN (Same.new np2) np2
  have hp2 : (upd (upd G1 p2 (.dK [])) p2 (.dK (mergeK [] (kvF formB)))) p2 = some (.dK (mergeK [] (kvF formB))) := upd_same
  generalize hG2 : upd (upd G1 p2 _) p2 _ = G2 at *
  have pp : p ≠ p2 := ne_of_none hp1 np2
  refine ⟨p2, _, _, rfl, s2 _ _ hp1, hp2, pp, by decide, ?_⟩
  have npH : H p = none := np
  have s3 : Same H (upd G2 p (.dK (mergeK (mergeK [] (kvF formA)) (mergeK [] (kvF formB))))) := Same.upN (Same.trans s1 s2) npH
  have hp3 : (upd G2 p (.dK (mergeK (mergeK [] (kvF formA)) (mergeK [] (kvF formB))))) p = some (.dK (kvF formT)) := by
    rw [upd_same]
    exact congrArg (fun x => some (HO.dK x)) form_all
  generalize hG3 : upd G2 p _ = G3 at *
  refine ⟨_, rfl, p, rfl, .inl ⟨_, .inl hp3⟩, _, rfl, _, DGet.k (k := Sum.inr z) hp3, ?_⟩
  rw [form_get]
  exact q _ s3
end
end Ft
set_option Elab.async false
set_option linter.all false
set_option maxRecDepth 100000
set_option maxHeartbeats 1000000
namespace Ft
open PySem L2 TL
theorem tl_lstrip (p : Str) : tl (Txt.lstripChars p "-") = (tl p).dropWhile fun c => (("-" : Str).cps).contains c := by
  unfold Txt.lstripChars
  rw [PyProof.Rows.stripBy_eq]
  unfold PySem.stripLo PySem.stripHi
  rw [if_pos rfl, if_neg (by decide)]
  rw [tl_strSub_end]
  have h := List.takeWhile_append_dropWhile (p := fun c => (("-" : Str).cps).contains c) (l := tl p)
  generalize hw : (tl p).takeWhile (fun c => (("-" : Str).cps).contains c) = a at *
  have e : List.takeWhile (Array.contains ("-" : Str).cps) p.cps.toList = a := hw
  generalize (tl p).dropWhile (fun c => (("-" : Str).cps).contains c) = b at *
  rw [← h]
  exact List.drop_left
theorem minus_has (c : Nat) : (("-" : Str).cps).contains c = decide (c = 45) := by
  have e : ("-" : Str).cps = #[45] := by decide +kernel
  rw [e]
  by_cases h : c = 45
  · subst h; decide +kernel
  · rw [decide_eq_false h]
    simp [h]
theorem dig_of {c : Nat} (h : decide (c ∈ tl figT) = true) : 48 ≤ c ∧ c ≤ 57 := by
  have := of_decide_eq_true h
  rw [fig_mem, List.mem_range'_1] at this
  omega
theorem tl_cutHead (z : Str) : tl (cutS z none (some 1)) = (tl z).take 1 := by
  unfold cutS
  rw [tl_mk, HT.sIx_none, show HT.sIx z.length z.length (some 1) = min 1 z.length from HT.sIx_nat _ _ 1, List.drop_zero, len_tl]
  by_cases h : 1 ≤ (tl z).length
  · rw [Nat.min_eq_left h]
  · have e : tl z = [] := List.length_eq_zero_iff.mp (by omega)
    rw [e]
    rfl
theorem wr_fig {p : Str} (h : wrN p = true) : figOk p = true := by
  have key : ∀ c cs, tl (figsOf p) = c :: cs → (∀ x ∈ c :: cs, 48 ≤ x ∧ x ≤ 57) → 1 ≤ (tl p).length → (tl p = c :: cs ∨ tl p = 45 :: c :: cs) → figOk p = true := fun c cs e hd h1 hc => by
    unfold figOk
    rw [decide_eq_true h1, Bool.true_and, tl_lstrip]
    have c45 : (("-" : Str).cps).contains c = false := by rw [minus_has]; exact decide_eq_false (by have := hd c (by simp); omega)
    have ed : (tl p).dropWhile (fun c => (("-" : Str).cps).contains c) = c :: cs := by
      rcases hc with hc | hc
      · rw [hc, List.dropWhile_cons_of_neg (by rw [c45]; exact Bool.false_ne_true)]
      · rw [hc, List.dropWhile_cons_of_pos (by decide +kernel), List.dropWhile_cons_of_neg (by rw [c45]; exact Bool.false_ne_true)]
    rw [ed]
    refine List.all_eq_true.mpr fun x hx => ?_
    rw [decide_eq_true (hd x hx).1, decide_eq_true (hd x hx).2]
    rfl
  unfold wrN at h
  cases ef : tl (figsOf p) with
  | nil => rw [ef] at h; cases h
  | cons c cs =>
    rw [ef] at h
    rw [Bool.and_eq_true] at h
    have hd : ∀ x ∈ c :: cs, 48 ≤ x ∧ x ≤ 57 := fun x hx => dig_of (List.all_eq_true.mp h.1 x hx)
    have hf : figsOf p = if cutS p none (some 1) = "-" then cutS p (some 1) none else p := rfl
    by_cases hc : cutS p none (some 1) = "-"
    · rw [if_pos hc] at hf
      have e1 := tl_cutHead p
      rw [hc] at e1
      have em : tl ("-" : Str) = [45] := by decide +kernel
      rw [em] at e1
      cases ep : tl p with
      | nil => rw [ep] at e1; cases e1
      | cons x r =>
        rw [ep] at e1
        have ex : x = 45 := (List.cons.inj e1).1.symm
        have e2 : tl (cutS p (some ((1 : Nat) : Int)) none) = (tl p).drop 1 := tl_cutTail (by rw [ep]; simp)
        have e3 : tl (figsOf p) = r := by
          rw [hf]
          refine e2.trans ?_
          rw [ep]
          rfl
        refine key c cs ef hd (by rw [ep]; simp) (.inr ?_)
        rw [ep, ex, ← e3, ef]
    · rw [if_neg hc] at hf
      rw [hf] at ef
      exact key c cs (by rw [hf]; exact ef) hd (by rw [ef]; simp) (.inl ef)
/-- a head of a row, by what is_written says alone -/
theorem headRd_of {n : Nat} {z w : Str} {fs ps : List Str} (st : Txt.startswith z (ind n) = true) (pt : partsOf n z = w :: ps) (hf : fieldsOf w = some fs) (hl : ps.length = (plainF fs).length) (hw : ∀ q ∈ (plainF fs).zip ps, wrF q.1 q.2 = true) : HeadRd n z w fs ps :=
  ⟨st, pt, hf, hl, fun q hq => ⟨hw q hq, fun hn => by
    have := hw q hq
    unfold wrF at this
    rw [if_neg hn] at this
    exact wr_fig this⟩⟩
def HeadBad (L : List Str) (n at_ : Nat) : Prop := ∀ z, L[at_]? = some z → ∀ w fs ps, ¬ HeadRd n z w fs ps
inductive BlksE (Rec : Nat → List Row → Nat → Prop) (RecE : Nat → Nat → Prop) (L : List Str) (n : Nat) : Nat → Nat → Nat → Nat → Prop
  | els {j m at_ : Nat} : j = 1 → L[at_]? ≠ some (ind n ++ ("else" : Str)) → BlksE Rec RecE L n j (m + 1) at_ (at_ + 1)
  | here {j m at_ at1 e : Nat} : (j = 1 → L[at_]? = some (ind n ++ ("else" : Str)) ∧ at1 = at_ + 1) → (j ≠ 1 → at1 = at_) → RecE at1 e → BlksE Rec RecE L n j (m + 1) at_ e
  | later {j m at_ at1 at2 e : Nat} {b : List Row} : (j = 1 → L[at_]? = some (ind n ++ ("else" : Str)) ∧ at1 = at_ + 1) → (j ≠ 1 → at1 = at_) → Rec at1 b at2 → BlksE Rec RecE L n (j + 1) m at2 e → BlksE Rec RecE L n j (m + 1) at_ e
def RowE (Rec : Nat → List Row → Nat → Prop) (RecE : Nat → Nat → Prop) (L : List Str) (n at_ e : Nat) : Prop :=
  (HeadBad L n at_ ∧ e = at_ + 1) ∨ ∃ z w fs ps, L[at_]? = some z ∧ HeadRd n z w fs ps ∧ BlksE Rec RecE L n 0 (nbF fs) (at_ + 1) e
inductive MoreE (R : Nat → Row → Nat → Prop) (RE : Nat → Nat → Prop) (L : List Str) (n : Nat) : Nat → Nat → Prop
  | here {at_ e : Nat} : Stands L n at_ → RE at_ e → MoreE R RE L n at_ e
  | later {at_ at1 e : Nat} {r : Row} : Stands L n at_ → R at_ r at1 → MoreE R RE L n at1 e → MoreE R RE L n at_ e
def RowsE (L : List Str) : Nat → Nat → Nat → Nat → Prop
  | 0, _, _, _ => False
  | d + 1, n, at_, e => L[at_]? ≠ some (ind n ++ ("nothing" : Str)) ∧ (RowE (RdRows L d (n + 1)) (RowsE L d (n + 1)) L n at_ e ∨
      ∃ r at1, RdRow (RdRows L d (n + 1)) L n at_ r at1 ∧ MoreE (RdRow (RdRows L d (n + 1)) L n) (RowE (RdRows L d (n + 1)) (RowsE L d (n + 1)) L n) L n at1 e)
inductive ModsE (L : List Str) (d : Nat) : Nat → Str → Nat → Prop
  | bad {at_ : Nat} {last : Str} : (at_ < L.length ∨ last = Str.empty) → (∀ w, L[at_]? = some (("module " : Str) ++ w) → isW w = true → ¬ last.cps.toList < w.cps.toList) → ModsE L d at_ last (at_ + 1)
  | here {at_ e : Nat} {last w : Str} : L[at_]? = some (("module " : Str) ++ w) → isW w = true → last.cps.toList < w.cps.toList → RowsE L d 1 (at_ + 1) e → ModsE L d at_ last e
  | later {at_ at1 e : Nat} {last w : Str} {rs : List Row} : L[at_]? = some (("module " : Str) ++ w) → isW w = true → last.cps.toList < w.cps.toList → RdRows L d 1 (at_ + 1) rs at1 → ModsE L d at1 w e → ModsE L d at_ last e
section
variable {L : List Str}
theorem blks_tot {Rec : Nat → List Row → Nat → Prop} {RecE : Nat → Nat → Prop} {n : Nat} (h : ∀ a, (∃ rs c, Rec a rs c) ∨ ∃ e, RecE a e) : ∀ m j a, (∃ bs c, RdBlks Rec L n j m a bs c) ∨ ∃ e, BlksE Rec RecE L n j m a e
  | 0, j, a => .inl ⟨[], a, .nil⟩
  | m + 1, j, a => by
    by_cases hj : j = 1
    · by_cases he : L[a]? = some (ind n ++ ("else" : Str))
      · rcases h (a + 1) with ⟨b, c, hb⟩ | ⟨e, hb⟩
        · rcases blks_tot h m (j + 1) c with ⟨bs, c2, hc⟩ | ⟨e, hc⟩
          · exact .inl ⟨b :: bs, c2, .cons (fun _ => ⟨he, rfl⟩) (fun k => absurd hj k) hb hc⟩
          · exact .inr ⟨e, .later (fun _ => ⟨he, rfl⟩) (fun k => absurd hj k) hb hc⟩
        · exact .inr ⟨e, .here (fun _ => ⟨he, rfl⟩) (fun k => absurd hj k) hb⟩
      · exact .inr ⟨_, .els hj he⟩
    · rcases h a with ⟨b, c, hb⟩ | ⟨e, hb⟩
      · rcases blks_tot h m (j + 1) c with ⟨bs, c2, hc⟩ | ⟨e, hc⟩
        · exact .inl ⟨b :: bs, c2, .cons (fun k => absurd k hj) (fun _ => rfl) hb hc⟩
        · exact .inr ⟨e, .later (fun k => absurd k hj) (fun _ => rfl) hb hc⟩
      · exact .inr ⟨e, .here (fun k => absurd k hj) (fun _ => rfl) hb⟩
theorem row_tot {Rec : Nat → List Row → Nat → Prop} {RecE : Nat → Nat → Prop} {n a : Nat} (h : (∃ z, L[a]? = some z ∧ Txt.startswith z (ind n) = true) → ∀ a, (∃ rs c, Rec a rs c) ∨ ∃ e, RecE a e) : (∃ r c, RdRow Rec L n a r c) ∨ ∃ e, RowE Rec RecE L n a e := by
  by_cases hb : HeadBad L n a
  · exact .inr ⟨_, .inl ⟨hb, rfl⟩⟩
  · unfold HeadBad at hb
    obtain ⟨z, hz⟩ := Classical.not_forall.mp hb
    obtain ⟨hz, h2⟩ := Classical.not_imp.mp hz
    obtain ⟨w, h2⟩ := Classical.not_forall.mp h2
    obtain ⟨fs, h2⟩ := Classical.not_forall.mp h2
    obtain ⟨ps, h2⟩ := Classical.not_forall.mp h2
    have hd := Classical.not_not.mp h2
    rcases blks_tot (L := L) (n := n) (h ⟨z, hz, hd.st⟩) (nbF fs) 0 (a + 1) with ⟨bs, c, hc⟩ | ⟨e, hc⟩
    · exact .inl ⟨_, c, z, w, fs, ps, bs, hz, hd, hc, rfl⟩
    · exact .inr ⟨e, .inr ⟨z, w, fs, ps, hz, hd, hc⟩⟩
theorem more_tot {R : Nat → Row → Nat → Prop} {RE : Nat → Nat → Prop} {n : Nat} (lt : ∀ a r c, R a r c → a < c) (h : ∀ a, (∃ r c, R a r c) ∨ ∃ e, RE a e) : ∀ m a, L.length - a ≤ m → (∃ rs c, RdMore R L n a rs c) ∨ ∃ e, MoreE R RE L n a e := by
  intro m
  induction m with
  | zero =>
    intro a ha
    refine .inl ⟨[], a, .stop fun ⟨z, hz, _⟩ => ?_⟩
    have := (List.getElem?_eq_some_iff.mp hz).1
    omega
  | succ m ih =>
    intro a ha
    by_cases hs : Stands L n a
    · rcases h a with ⟨r, c, hr⟩ | ⟨e, hr⟩
      · have := lt _ _ _ hr
        rcases ih c (by omega) with ⟨rs, c2, hc⟩ | ⟨e, hc⟩
        · exact .inl ⟨r :: rs, c2, .step hs hr hc⟩
        · exact .inr ⟨e, .later hs hr hc⟩
      · exact .inr ⟨e, .here hs hr⟩
    · exact .inl ⟨[], a, .stop hs⟩
/-- M: no line is so far in -/
theorem rows_tot2 {M : Nat} (hM : ∀ z ∈ L, Txt.startswith z (ind M) = false) : ∀ d n a, M + 1 ≤ d + n → 1 ≤ d → (∃ rs c, RdRows L d n a rs c) ∨ ∃ e, RowsE L d n a e := by
  intro d
  induction d with
  | zero => intro n a _ h; omega
  | succ d ih =>
    intro n a hn _
    by_cases hno : L[a]? = some (ind n ++ ("nothing" : Str))
    · exact .inl ⟨[], a + 1, .inl ⟨hno, rfl, rfl⟩⟩
    have far : ∀ a, (∃ z, L[a]? = some z ∧ Txt.startswith z (ind n) = true) → 1 ≤ d := fun a h => by
      obtain ⟨z, hz, hs⟩ := h
      cases d with
      | succ d => omega
      | zero =>
        exfalso
        have h0 := hM z (List.mem_of_getElem? hz)
        have hMn : M ≤ n := by omega
        rw [starts_pre] at h0 hs
        obtain ⟨q, hq⟩ := pre_iff.mp hs
        rw [tl_ind, show 2 * n = 2 * M + 2 * (n - M) by omega, ← List.replicate_append_replicate, List.append_assoc, ← tl_ind M] at hq
        have := pre_iff.mpr ⟨_, hq⟩
        rw [this] at h0
        cases h0
    have hr : ∀ a, (∃ r c, RdRow (RdRows L d (n + 1)) L n a r c) ∨ ∃ e, RowE (RdRows L d (n + 1)) (RowsE L d (n + 1)) L n a e := fun a =>
      row_tot (L := L) (n := n) (a := a) fun hs a2 => ih (n + 1) a2 (by omega) (far a hs)
    rcases hr a with ⟨r, c, h1⟩ | ⟨e, h1⟩
    · rcases more_tot (L := L) (n := n) (fun _ _ _ h => rdRow_lt (fun _ _ _ h => rdRows_lt h) h) hr _ c (Nat.le_refl _) with ⟨rs, c2, h2⟩ | ⟨e, h2⟩
      · exact .inl ⟨r :: rs, c2, .inr ⟨hno, r, rs, c, rfl, h1, h2⟩⟩
      · exact .inr ⟨e, hno, .inr ⟨r, c, h1, h2⟩⟩
    · exact .inr ⟨e, hno, .inl h1⟩
end
end Ft
set_option Elab.async false
set_option linter.all false
set_option maxRecDepth 100000
set_option maxHeartbeats 1000000
set_option pp.maxSteps 3000
set_option pp.deepTerms.threshold 8
namespace Ft
open PySem L2
/-- the law's reader at m: the lines at l, where it is, whether something was wrong -/
structure MAt (H : Hp) (m l : Addr) (L : List Str) (i : Nat) (bad : Bool) : Prop where
  m : H m = some (.dK [(Sum.inr "lines", .ref l), (Sum.inr "at", .int i), (Sum.inr "bad", .bl bad)])
  l : H l = some (.lst (L.map V.str))
def lineV (L : List Str) (i : Nat) : V := match L[i]? with
  | some z => .str z
  | none => .non
theorem MAt.lines {H : Hp} {m l : Addr} {L : List Str} {i : Nat} {b : Bool} (h : MAt H m l L i b) : DGet H m (.str "lines") (some (.ref l)) := DGet.k (k := Sum.inr "lines") h.m
theorem MAt.at_ {H : Hp} {m l : Addr} {L : List Str} {i : Nat} {b : Bool} (h : MAt H m l L i b) : DGet H m (.str "at") (some (.int i)) := DGet.k (k := Sum.inr "at") h.m
theorem MAt.bad {H : Hp} {m l : Addr} {L : List Str} {i : Nat} {b : Bool} (h : MAt H m l L i b) : DGet H m (.str "bad") (some (.bl b)) := DGet.k (k := Sum.inr "bad") h.m
section
variable {P : Program} {w : World} {K : PySem.W.Frag} {mg : Str → Option Value} {base : Heap}
abbrev sLLine : Stmt := topS 48
theorem scLLine : FnScope ["_law_m"] ["_law_m"] (defScope sLLine) := ⟨rfl, rfl, rfl, by decide +kernel, rfl, by decide +kernel, by decide +kernel⟩
def spLLine : Sp := fun vs H Q _ => ∃ (m l : Addr) (L : List Str) (i : Nat) (b : Bool), vs = [.ref m] ∧ MAt H m l L i b ∧ Q (lineV L i) H
theorem ok_LLine {f : Addr} {fd : FuncData} {k : Nat} (F : Fun K "_law_line" "_law_line" sLLine f fd) (B : Bl mg) : FnOk P w K mg base CX0 (k + 1) f fd ["_law_m"] spLLine := by
  refine F.ok scLLine (fun vs H Q E h => ?_) (fun cdv A outer s H vs Q E hr h => ?_)
  · obtain ⟨m, l, L, i, b, rfl, _⟩ := h
    rfl
  obtain ⟨m, l, L, i, b, rfl, h, q⟩ := h
  refine ⟨_, (pss_one (ps_ret (pe_ifExp (pt_cmpR op_lt (pe_dget (hu_of hr) (pv 0) pe_str (fun _ _ => rfl)) (pe_callB call_len_seq (by rfl) B.len (by decide +kernel) (pa_cons (pe_dget (hu_of hr) (pv 0) pe_str (fun _ _ => rfl)) pa_nil)) (nomark _)) (pe_ix ix_list (pe_dget (hu_of hr) (pv 0) pe_str (fun _ _ => rfl)) (pe_dget (hu_of hr) (pv 0) pe_str (fun _ _ => rfl)) (fun _ _ => rfl)) pe_non))), ?_⟩
  refine ⟨_, rfl, m, _, rfl, h.at_, _, rfl, m, _, rfl, h.lines, l, _, rfl, .inl (SqL.of h.l), _, _, rfl, rfl, _, rfl, ?_⟩
  rw [List.length_map]
  unfold lineV at q
  by_cases hi : i < L.length
  · have g : L[i]? = some L[i] := List.getElem?_eq_getElem hi
    generalize L[i] = z at g
    rw [g] at q
    rw [decide_eq_true (by omega)]
    exact iteT ⟨_, rfl, m, _, rfl, h.lines, _, rfl, m, _, rfl, h.at_, l, _, _, _, rfl, rfl, SqL.of h.l, atI_nat (by rw [List.getElem?_map, g]; rfl), q⟩
  · rw [List.getElem?_eq_none (by omega)] at q
    rw [decide_eq_false (by omega)]
    exact iteF q
abbrev sLIsWord : Stmt := topS 45
theorem scLIsWord : FnScope ["_law_thing", "_law_sign"] ["_law_thing"] (defScope sLIsWord) := ⟨rfl, rfl, rfl, by decide +kernel, rfl, by decide +kernel, by decide +kernel⟩
def spLIsWord (K : PySem.W.Frag) : Sp := fun vs H Q _ => ∃ v, vs = [v] ∧ Known K H v ∧ ∀ H', Same H H' → Q (.bl (wordV v)) H'
theorem ok_LIsWord {f : Addr} {fd : FuncData} {k : Nat} (F : Fun K "_law_is_word" "_law_is_word" sLIsWord f fd) (B : Bl mg) : FnOk P w K mg base CX0 (k + 1) f fd ["_law_thing"] (spLIsWord K) := by
  refine F.ok scLIsWord (fun vs H Q E h => ?_) (fun cdv A outer s H vs Q E hr h => ?_)
  · obtain ⟨v, rfl, _⟩ := h
    rfl
  obtain ⟨v, rfl, hv, q⟩ := h
  refine ⟨_, (pss_cons (ps_if (pt_mid (PW.pt (pw_or (pt_not (pt_val (pe_callB call_isi (by rfl) B.isinstance (by decide +kernel) (pa_cons (pv 0) (pa_cons (pe_bltn (v := .ty "str") (by rfl) B.str (by decide +kernel) rfl) pa_nil))))) (pw_or (pt_cmpR op_lt (pe_callB call_len_str (by rfl) B.len (by decide +kernel) (pa_cons (pv 0) pa_nil)) pe_int (nomark _)) (pw_or1 (pt_cmpR op_gt (pe_callB call_len_str (by rfl) B.len (by decide +kernel) (pa_cons (pv 0) pa_nil)) pe_int (nomark _))))))) (pss_one (ps_ret pe_bl)) pss_nil)
      (pss_one (ps_ret (pe_callB (cr_all rfl) (by rfl) B.all (by decide +kernel) (pa_cons (pe_lc (own := [("_law_sign", 1)]) (g := (gName 1)) (tt := tYes) (by rfl) scLIsWord.nd (pi_str (pv 0)) (blkOk_by (own := [("_law_sign", 1)]) (N := ["_law_thing", "_law_sign"]) (sc := defScope sLIsWord) (by decide +kernel)) (fun _ _ _ _ _ => (pg_name (i := 1) scLIsWord.nd rfl (by first | exact Or.inl rfl | exact Or.inr rfl))) (fun _ _ _ _ _ => pts_nil) (fun _ _ _ _ _ => (pe_cmpR op_in_sign (pv 1) pe_str (by rfl)))) pa_nil))))), ?_⟩
  refine ⟨fun b H' => H = H' ∧ b = !lenV v, ?_, ?_⟩
  · have no : ∀ {T : String}, TyX K H v (.type T) → kitB T "str" = some false → lenV v = false → rIsi K [v, .ty "str"] H fun x H1 => ∃ k, x = V.bl k ∧ if (!k) = true then (H = H1 ∧ true = !lenV v) else False := fun {T} t hk hw =>
      ⟨_, _, _, _, _, rfl, .ty _, t, kit_ty hk, false, rfl, iteT ⟨rfl, by rw [hw]; rfl⟩⟩
    rcases hv with ⟨z, rfl, hz⟩ | rfl | ⟨b, rfl⟩ | ⟨i, rfl⟩ | ⟨a, T, rfl, ht, hm⟩
    · refine ⟨_, rfl, _, _, _, _, _, rfl, .ty _, .base (.str z), kit_ty (r := true) (by decide +kernel), true, rfl, iteF ?_⟩
      refine ⟨_, rfl, z, rfl, hz, _, _, rfl, rfl, _, rfl, ite2 (fun c => ?_) (fun c => ?_)⟩
      · have c' : (z.length : Int) < 1 := of_decide_eq_true c
        refine ⟨rfl, ?_⟩
        rw [lenV_str, decide_eq_false (show ¬ 1 ≤ z.length by omega)]
        rfl
      · have c' : ¬ (z.length : Int) < 1 := fun h => c (decide_eq_true h)
        refine ⟨_, rfl, z, rfl, hz, _, _, rfl, rfl, _, rfl, rfl, ?_⟩
        rw [lenV_str, decide_eq_true (show 1 ≤ z.length by omega), Bool.true_and]
        by_cases h8 : z.length ≤ 8
        · rw [decide_eq_true h8, decide_eq_false (by omega)]; rfl
        · rw [decide_eq_false h8, decide_eq_true (by omega)]; rfl
    · exact ⟨_, rfl, _, _, _, _, _, rfl, .ty _, .base .non, kit_ty (r := false) (by decide +kernel), false, rfl, iteT ⟨rfl, rfl⟩⟩
    · exact ⟨_, rfl, _, _, _, _, _, rfl, .ty _, .base (.bl b), kit_ty (r := false) (by decide +kernel), false, rfl, iteT ⟨rfl, rfl⟩⟩
    · exact ⟨_, rfl, _, _, _, _, _, rfl, .ty _, .base (.int i), kit_ty (r := false) (by decide +kernel), false, rfl, iteT ⟨rfl, rfl⟩⟩
    · have hk : kitB T "str" = some false := by
        have : ∀ T ∈ ["list", "tuple", "dict"], kitB T "str" = some false := by decide +kernel
        exact this T hm
      exact ⟨_, rfl, _, _, _, _, _, rfl, .ty _, ht, kit_ty hk, false, rfl, iteT ⟨rfl, rfl⟩⟩
  rintro b _ ⟨rfl, rfl⟩
  cases hl : lenV v with
  | false =>
    refine iteT ?_
    have hw : wordV v = false := by
      cases v with
      | str z =>
        show isW z = false
        rw [lenV_str] at hl
        unfold isW
        rw [← Bool.and_assoc, hl]
        rfl
      | _ => rfl
    have := q H (Same.refl H)
    rw [hw] at this
    exact this
  | true =>
    refine iteF ?_
    obtain ⟨z, rfl⟩ : ∃ z, v = .str z := by
      cases v with
      | str z => exact ⟨z, rfl⟩
      | _ => cases hl
    have hw : wordV (.str z) = z.cps.toList.all fun c => decide (97 ≤ c) && decide (c ≤ 122) := by
      show isW z = _
      rw [lenV_str] at hl
      unfold isW
      rw [← Bool.and_assoc, hl]
      rfl
    have hsz : z.length ≤ 8 := by
      rw [lenV_str, Bool.and_eq_true] at hl
      exact of_decide_eq_true hl.2
    refine ⟨_, rfl, z, rfl, fun D nD => ?_⟩
    refine lc_it walk_str (fun i H' => Same H H' ∧ H' D = some (.lst (((z.cps.toList.take i).map fun c => decide (97 ≤ c) && decide (c ≤ 122)).map V.bl)))
      ⟨Same.new nD, upd_same⟩ (fun _ _ _ _ => trivial) ?_ ?_
    · rintro i x H1 H2 hi ⟨sm, hD⟩ ⟨rfl, c, hc, rfl⟩
      refine ⟨rfl, ?_⟩
      refine ⟨_, rfl, c, letters, rfl, rfl, _, hD, ?_, Same.upN sm nD, ?_⟩
      · rw [List.length_map, List.length_map, List.length_take]
        have : z.cps.toList.length = z.length := rfl
        exact small (by omega)
      · have hc' : z.cps.toList[i]? = some c := by rw [Array.getElem?_toList]; exact hc
        rw [upd_same, List.take_add_one, hc', List.map_append, List.map_append, letters_mem]
        rfl
    · rintro H1 ⟨sm, hD⟩
      have e : z.cps.toList.take z.cps.size = z.cps.toList := List.take_of_length_le (by simp)
      rw [e] at hD
      refine ⟨D, _, rfl, SqL.of hD, ?_⟩
      have e2 : ((z.cps.toList.map fun c => decide (97 ≤ c) && decide (c ≤ 122)).all id) = wordV (.str z) := by
        rw [hw, List.all_map]
        rfl
      rw [e2]
      exact q _ sm
end
end Ft
set_option Elab.async false
set_option linter.all false
set_option maxRecDepth 100000
set_option maxHeartbeats 1000000
set_option pp.maxSteps 3000
set_option pp.deepTerms.threshold 8
namespace Ft
open PySem L2 TL
theorem wr_cases {p : Str} (h : wrN p = true) : ∃ c cs, (∀ x ∈ c :: cs, 48 ≤ x ∧ x ≤ 57) ∧ (tl p = c :: cs ∨ tl p = 45 :: c :: cs) := by
  unfold wrN at h
  cases ef : tl (figsOf p) with
  | nil => rw [ef] at h; cases h
  | cons c cs =>
    rw [ef] at h
    rw [Bool.and_eq_true] at h
    refine ⟨c, cs, fun x hx => dig_of (List.all_eq_true.mp h.1 x hx), ?_⟩
    have hf : figsOf p = if cutS p none (some 1) = "-" then cutS p (some 1) none else p := rfl
    by_cases hc : cutS p none (some 1) = "-"
    · rw [if_pos hc] at hf
      have e1 := tl_cutHead p
      rw [hc] at e1
      have em : tl ("-" : Str) = [45] := by decide +kernel
      rw [em] at e1
      cases ep : tl p with
      | nil => rw [ep] at e1; cases e1
      | cons x r =>
        rw [ep] at e1
        have ex : x = 45 := (List.cons.inj e1).1.symm
        have e2 : tl (cutS p (some ((1 : Nat) : Int)) none) = (tl p).drop 1 := tl_cutTail (by rw [ep]; simp)
        have e3 : tl (figsOf p) = r := by
          rw [hf]
          refine e2.trans ?_
          rw [ep]
          rfl
        exact .inr (by rw [ex, ← e3, ef])
    · rw [if_neg hc] at hf
      rw [hf] at ef
      exact .inl ef
theorem int_read {p : Str} (h : wrN p = true) (hl : p.length ≤ 640) : PySem.intText? p = some (numOf p) := by
  obtain ⟨c, cs, hd, hc⟩ := wr_cases h
  have c45 : (("-" : Str).cps).contains c = false := by rw [minus_has]; exact decide_eq_false (by have := hd c (by simp); omega)
  have ne45 : c ≠ 45 := by have := hd c (by simp); omega
  have en : numOf p = if (tl p).head? = some 45 then -((numN ((tl p).dropWhile fun c => (("-" : Str).cps).contains c) 0 : Nat) : Int) else ((numN ((tl p).dropWhile fun c => (("-" : Str).cps).contains c) 0 : Nat) : Int) := by
    unfold numOf
    rw [tl_lstrip]
  rcases hc with hc | hc
  · have hn := PySem.intText_digits (x := p) (by rw [show p.cps.toList = c :: cs from hc]; exact hd) (by rw [show p.cps.toList = c :: cs from hc]; simp) (by omega)
    rw [hn, en, hc, List.dropWhile_cons_of_neg (by rw [c45]; exact Bool.false_ne_true), if_neg (by simp [ne45])]
    rw [show p.cps.toList = c :: cs from hc]
    rfl
  · have hn := PySem.intText_neg (x := p) (cs := c :: cs) hc hd (by simp) (by omega)
    rw [hn, en, hc, List.dropWhile_cons_of_pos (by decide +kernel), List.dropWhile_cons_of_neg (by rw [c45]; exact Bool.false_ne_true), if_pos (by rfl)]
    rfl
section
variable {P : Program} {w : World} {K : PySem.W.Frag} {mg : Str → Option Value} {base : Heap}
abbrev sLNumberOf : Stmt := topS 47
theorem scLNumberOf : FnScope ["_law_word_here", "_law_digits", "_law_sign"] ["_law_word_here"] (defScope sLNumberOf) := ⟨rfl, rfl, rfl, by decide +kernel, rfl, by decide +kernel, by decide +kernel⟩
def numV (p : Str) : V := if wrN p = true then .int (numOf p) else .non
def spLNumberOf : Sp := fun vs H Q _ => ∃ p : Str, vs = [.str p] ∧ p.length ≤ 15500000 ∧ (wrN p = true → p.length ≤ 640) ∧ ∀ H', Same H H' → Q (numV p) H'
theorem ok_LNumberOf {f : Addr} {fd : FuncData} {k : Nat} (F : Fun K "_law_number_of" "_law_number_of" sLNumberOf f fd) (B : Bl mg) : FnOk P w K mg base CX0 (k + 1) f fd ["_law_word_here"] spLNumberOf := by
  refine F.ok scLNumberOf (fun vs H Q E h => ?_) (fun cdv A outer s H vs Q E hr h => ?_)
  · obtain ⟨p, rfl, _⟩ := h
    rfl
  obtain ⟨p, rfl, hl, hl2, q⟩ := h
  refine ⟨_, (pss_cons (ps_set (i := 1) scLNumberOf.nd rfl (by first | exact Or.inl rfl | exact Or.inr rfl) (pe_ifExp (pt_cmpR op_eq (pe_slice sl_str (pv 0) po_none (po_some pe_int)) pe_str (nomark _)) (pe_slice sl_str (pv 0) (po_some pe_int) po_none) (pv 0)))
      (pss_cons (ps_if (PW.pt (pw_or (pt_cmpR op_eq (pv 1) pe_str (nomark _)) (pw_or1 (pt_not (pt_val (pe_callB (cr_all rfl) (by rfl) B.all (by decide +kernel) (pa_cons (pe_lc (own := [("_law_sign", 2)]) (g := (gName 2)) (tt := tYes) (by rfl) scLNumberOf.nd (pi_str (pv 1)) (blkOk_by (own := [("_law_sign", 2)]) (N := ["_law_word_here", "_law_digits", "_law_sign"]) (sc := defScope sLNumberOf) (by decide +kernel)) (fun _ _ _ _ _ => (pg_name (i := 2) scLNumberOf.nd rfl (by first | exact Or.inl rfl | exact Or.inr rfl))) (fun _ _ _ _ _ => pts_nil) (fun _ _ _ _ _ => (pe_cmpR op_in_sign (pv 2) pe_str (by rfl)))) pa_nil))))))) (pss_one (ps_ret pe_non)) pss_nil)
      (pss_cons (ps_if (PW.pt (pw_and (pt_cmpR op_eq (pe_ix ix_str (pv 1) pe_int (fun _ _ => rfl)) pe_str (nomark _)) (pw_and1 (pt_cmpR op_ne (pv 0) pe_str (nomark _))))) (pss_one (ps_ret pe_non)) pss_nil)
      (pss_one (ps_ret (pe_callTy call_int_str (by rfl) B.int (by decide +kernel) (pa_cons (pv 0) pa_nil))))))), ?_⟩
  have bg : sizeLine ≥ 16777216 := by decide
  have ef : figsOf p = if cutS p none (some 1) = "-" then cutS p (some 1) none else p := rfl
  have lf : (figsOf p).length ≤ p.length := by
    unfold figsOf
    split
    · exact cutS_length _ _ _
    · exact Nat.le_refl _
  have key : ∀ {R : V → Hp → Prop}, R (.str (figsOf p)) H → (tIf (tTest (tOp rEq (tSl rSlS (tVar 0) tNoPart (tPart (tC (V.int 1)))) (tC (V.str ("-"))))) (tSl rSlS (tVar 0) (tPart (tC (V.int 1))) tNoPart) (tVar 0)) (L2.start ["_law_word_here", "_law_digits", "_law_sign"] [V.str p]) H R := fun {R} h => by
    refine ⟨_, rfl, 1, rfl, p, rfl, by omega, rfl, _, rfl, ?_⟩
    by_cases hc : cutS p none (some 1) = "-"
    · rw [if_pos hc] at ef
      rw [decide_eq_true (by rw [hc])]
      exact iteT ⟨_, rfl, 1, rfl, p, rfl, by omega, by rw [← ef]; exact h⟩
    · rw [if_neg hc] at ef
      rw [decide_eq_false (fun z => hc (V.str.inj z))]
      exact iteF ⟨_, rfl, by rw [← ef]; exact h⟩
  refine key ?_
  refine ⟨_, rfl, rfl, _, rfl, ?_⟩
  cases ec : tl (figsOf p) with
  | nil =>
    have e0 : figsOf p = "" := ext_tl ec
    rw [decide_eq_true (by rw [e0])]
    refine iteT (iteT ?_)
    have ew2 : wrN p = false := by unfold wrN; rw [ec]
    have := q H (Same.refl H)
    unfold numV at this
    rw [ew2] at this
    exact this
  | cons c cs =>
    rw [decide_eq_false (fun z => by have := V.str.inj z; rw [this] at ec; cases ec)]
    refine iteF ⟨_, rfl, figsOf p, rfl, fun D nD => ?_⟩
    refine lc_it walk_str (fun i H' => Same H H' ∧ H' D = some (.lst (((tl (figsOf p)).take i).map fun c => V.bl (decide (c ∈ tl figT)))))
      ⟨Same.new nD, upd_same⟩ (fun _ _ _ _ => trivial) ?_ ?_
    · rintro i x H1 H2 hi ⟨sm, hD⟩ ⟨rfl, c, hc, rfl⟩
      refine ⟨rfl, ?_⟩
      refine ⟨_, rfl, c, figT, rfl, rfl, _, hD, ?_, Same.upN sm nD, ?_⟩
      · rw [List.length_map, List.length_take]
        have : (tl (figsOf p)).length = (figsOf p).length := rfl
        exact big (by omega)
      · have hc' : (tl (figsOf p))[i]? = some c := by rw [Array.getElem?_toList]; exact hc
        rw [upd_same, List.take_add_one, hc', List.map_append]
        rfl
    · rintro H1 ⟨sm, hD⟩
      have e : (tl (figsOf p)).take (figsOf p).cps.size = tl (figsOf p) := List.take_of_length_le (by simp)
      rw [e] at hD
      refine ⟨D, (tl (figsOf p)).map fun c => decide (c ∈ tl figT), rfl, SqL.of (by rw [hD, List.map_map]; rfl), _, rfl, ?_⟩
      have ew2 : wrN p = ((c :: cs).all (fun x => decide (x ∈ tl figT)) && (decide (p = "0") || !decide (c = 48))) := by unfold wrN; rw [ec]
      have ea : (((tl (figsOf p)).map fun c => decide (c ∈ tl figT)).all id) = (c :: cs).all (fun x => decide (x ∈ tl figT)) := by
        rw [ec, List.all_map]
        rfl
      rw [ea]
      have ez : ("0" : Str) = ⟨#[48]⟩ := by decide +kernel
      have qn := q _ sm
      unfold numV at qn
      have fin : wrN p = true → ∃ a n, [V.str p] = [V.str a] ∧ PySem.intText? a = some n ∧ a.length ≤ 640 ∧ Q (.int n) H1 := fun hw => by
        rw [if_pos hw] at qn
        exact ⟨p, numOf p, rfl, int_read hw (hl2 hw), hl2 hw, qn⟩
      cases hall : (c :: cs).all (fun x => decide (x ∈ tl figT)) with
      | false =>
        rw [hall, Bool.false_and] at ew2
        rw [ew2] at qn
        exact iteT qn
      | true =>
        rw [hall, Bool.true_and] at ew2
        have ed : decide (V.str ⟨#[c]⟩ = V.str "0") = decide (c = 48) := by
          rw [ez]
          refine decide_eq_decide.mpr ⟨fun z => ?_, fun z => by rw [z]⟩
          have := V.str.inj z
          injection this with z; injection z with z; injection z
        refine iteF ⟨_, rfl, figsOf p, 0, c, rfl, rfl, by omega, ?_, rfl, _, rfl, ?_⟩
        · show atI (tl (figsOf p)) 0 = _
          rw [ec]
          exact atI_nat (j := 0) rfl
        rw [ed]
        by_cases h48 : c = 48
        · rw [decide_eq_true h48] at ew2 ⊢
          refine iteT ⟨_, rfl, rfl, _, rfl, ?_⟩
          by_cases hp : p = "0"
          · rw [decide_eq_true hp] at ew2
            rw [decide_eq_true (by rw [hp])]
            exact iteF ⟨_, rfl, fin ew2⟩
          · rw [decide_eq_false hp] at ew2
            rw [ew2] at qn
            rw [decide_eq_false (fun z => hp (V.str.inj z))]
            exact iteT qn
        · rw [decide_eq_false h48, Bool.not_false, Bool.or_true] at ew2
          rw [decide_eq_false h48]
          exact iteF (iteF ⟨_, rfl, fin ew2⟩)
end
end Ft
set_option Elab.async false
set_option linter.all false
set_option maxRecDepth 100000
set_option maxHeartbeats 4000000
namespace Ft
open PySem PySem.Spec PyProof.Rows L2
theorem siS_at {h h' : Heap} {it : Addr} {ty : String} {x : Str} {t : Tok} {i : Nat} (st : h.IsStrIter it ty x t i) (k : ∀ o, h.get? it = some o → h'.get? it = some o) : h'.IsStrIter it ty x t i := by
  obtain ⟨o, ho, r⟩ := st
  exact ⟨o, k o ho, r⟩
def ItzS (x : Str) (kb : Bool) (K : PySem.W.Frag) (b : Addr) : It :=
  ⟨fun i H => ∃ (ys : List V) (y : V), i < x.cps.size ∧ Sq kb K H b ys ∧ ys[i]? = some y,
    fun i H v H' => ∃ T c y, v = .ref T ∧ H T = none ∧ H' = upd H T (.tup [.str ⟨#[c]⟩, y]) ∧ x.cps[i]? = some c ∧ ∀ ys, Sq kb K H b ys → ys[i]? = some y,
    fun i H => ∃ ys : List V, Sq kb K H b ys ∧ i ≤ x.cps.size ∧ i ≤ ys.length ∧ (i = x.cps.size ∨ i = ys.length)⟩
theorem turn_zipS {P : Program} {w : World} {K : PySem.W.Frag} {elts : List Expr} {kk : Nat} {tpos : Pos} {x : Str} {t : Tok} {kb : Bool} {b z TI TO i1 i2 : Addr} (D : ZipSep2 z TI TO i1 i2 [i1] [i2, b]) (nb : b ≠ i2) :
    Turn P w K (.Tuple elts kk tpos) (ItzS x kb K b) [z, TI, TO, i1, i2] z (fun i h => IsZip h z TI TO .none ∧ IsTupOf2 h TI (.ref i1) (.ref i2) ∧ (∃ x y, IsTupOf2 h TO x y) ∧ h.IsStrIter i1 (strIterType x) x t i ∧ SIter kb h i2 b i) where
  mem := by simp
  obj := fun i h st c hc => by
    obtain ⟨hz, hTI, ⟨w0, y, hTO⟩, h1, h2⟩ := st
    have e' : c = z ∨ c = TI ∨ c = TO ∨ c = i1 ∨ c = i2 := by simpa using hc
    rcases e' with q | q | q | q | q
    · rw [q]; exact ⟨_, hz, fun v q => nomatch q⟩
    · rw [q]; exact ⟨_, hTI, fun v q => nomatch q⟩
    · rw [q]; exact ⟨_, hTO, fun v q => nomatch q⟩
    · obtain ⟨o, ho, hc, hd⟩ := h1
      exact ⟨o, by rw [q]; exact ho, fun v q => by rw [hd] at q; cases q⟩
    · rw [q]; exact h2.obj
  keep := fun i h h' st k => by
    obtain ⟨hz, hTI, ⟨w0, y, hTO⟩, h1, h2⟩ := st
    exact ⟨k z (by simp) _ hz, k TI (by simp) _ hTI, ⟨w0, y, k TO (by simp) _ hTO⟩, siS_at h1 fun o q => k i1 (by simp) o q, h2.at fun o q => k i2 (by simp) o q⟩
  item := by
    intro X hP hw hK hc i pins s σ H E I hf st hg
    subst hP hw hK
    obtain ⟨hz, hTI, ⟨x0, y0, hTO⟩, h1, h2⟩ := st
    obtain ⟨ys, y, hix, hqy, hy⟩ := hg
    obtain ⟨its2, rv2, p2, _⟩ := sq_at I hqy
    have hh : X.A.in1.handled = none := I.ok.hd hc
    have D1 := Draws.text (prog := X.prog) (w := X.w) hh i1 x t
    have D2 := sdraws kb (prog := X.prog) (w := X.w) hh i2 b nb its2.toArray
    obtain ⟨u2, hu2, ru2⟩ := rv2.get hy
    have hzl : z < s.heap.objs.size := Heap.lt_size hz
    have l2 : i < its2.toArray.size := by
      have := (List.getElem?_eq_some_iff.mp hu2).1
      simpa using this
    refine wpAny_pyNext_zipD2_item D D1 D2 hz hTI hTO h1 ⟨h2, p2⟩ hix l2 fun v1 v2 h' tk e1 e2 z' TO' h1' h2' hT hsz hk => ?_
    obtain ⟨c, u, hcx, rfl⟩ := e1
    have e2' : u2 = v2 := by
      have q : its2[i]? = some v2 := by simpa using e2
      rw [hu2] at q; exact Option.some.inj q
    subst e2'
    refine ⟨_, rfl, wpAny_letOwnedTupleGo_zip (s := { s with heap := h', toks := tk }) z' fun h'' z'' sb => ?_⟩
    have hT2 : h''.get? s.heap.objs.size = some { cls := .type "tuple", data := .seq #[.str ⟨#[c]⟩ u, u2] } := (sb.2 _ (Nat.ne_of_gt hzl)).trans hT
    have new : ObjOk X.prog X.w (upd H s.heap.objs.size (.tup [.str ⟨#[c]⟩, y])) h'' s.heap.objs.size (.tup [.str ⟨#[c]⟩, y]) :=
      ⟨by show 2 ≤ sizeLine; decide, [.str ⟨#[c]⟩ u, u2], .cons ⟨u, rfl⟩ (.cons ru2 .nil), ⟨_, hT2, rfl, _, rfl⟩⟩
    have I1 : Inv X pins σ (upd H s.heap.objs.size (.tup [.str ⟨#[c]⟩, y])) { s with heap := h'', toks := tk } :=
      I.turnedNew (t' := tk) (ch := [z, TI, TO, i1, i2]) (fun c o hb q => (sb.2 c (fun q' => hb (by simp [q']))).trans (hk c o (fun q' => hb (by simp [q'])) (fun q' => hb (by simp [q'])) (fun q' => hb (by simp [q'])) (fun q' => hb (by simp [q'])) q)) hf (Nat.le_refl _) new
    refine ⟨.ref s.heap.objs.size, _, I1, rfl, ⟨_, c, y, rfl, I.hok.fresh (Nat.le_refl _), rfl, hcx, fun l hl => by rw [sq_inj I hl hqy]; exact hy⟩, ⟨z'', ?_, ⟨.str ⟨#[c]⟩ u, u2, ?_⟩, ?_, ?_⟩, fun c hcm => ?_⟩
    · exact (sb.2 _ D.TIz).trans (hk _ _ D.TIz D.TITO D.TIi1 D.TIi2 hTI)
    · exact (sb.2 _ D.TOz).trans TO'
    · exact siS_at h1' fun o q => (sb.2 _ D.zi1.symm).trans q
    · exact h2'.1.at fun o q => (sb.2 _ D.zi2.symm).trans q
    · have hlt : c < s.heap.objs.size := by
        have e' : c = z ∨ c = TI ∨ c = TO ∨ c = i1 ∨ c = i2 := by simpa using hcm
        rcases e' with q | q | q | q | q
        · rw [q]; exact hzl
        · rw [q]; exact Heap.lt_size hTI
        · rw [q]; exact Heap.lt_size hTO
        · rw [q]; obtain ⟨_, e1, _⟩ := h1; exact Heap.lt_size e1
        · rw [q]; obtain ⟨_, e2, _⟩ := h2.obj; exact Heap.lt_size e2
      rw [upd_ne (Nat.ne_of_lt hlt)]
      exact (hf c hcm).1
  done := by
    intro X hP hw hK hc i pins s σ H E I hf st hg
    subst hP hw hK
    obtain ⟨hz, hTI, ⟨x0, y0, hTO⟩, h1, h2⟩ := st
    obtain ⟨ys, hqy, le1, le2, hend⟩ := hg
    obtain ⟨its2, rv2, p2, _⟩ := sq_at I hqy
    have hh : X.A.in1.handled = none := I.ok.hd hc
    have D1 := Draws.text (prog := X.prog) (w := X.w) hh i1 x t
    have D2 := sdraws kb (prog := X.prog) (w := X.w) hh i2 b nb its2.toArray
    have l2 := rv2.length
    have z2 : its2.toArray.size = its2.length := by simp
    exact wpAny_pyNext_zipD2_end D D1 D2 hz hTI hTO h1 ⟨h2, p2⟩ (by omega) (by omega) (by omega) fun h' tk hk => ⟨rfl, I.turnedL (t' := tk) (ch := [z, TI, TO, i1, i2]) (fun c o hb q =>
      hk c o (fun q' => hb (by simp [q'])) (fun q' => hb (by simp [q'])) (fun q' => hb (by simp [q'])) (fun q' => hb (by simp [q'])) q) hf⟩
  self := fun A i s Q E st h => wpAny_pyIter_zip st.1 h
def iZipS (K : PySem.W.Frag) (ta : TA) : TI := fun σ H R => ta σ H fun vs H1 => ∃ x b kb ys, vs = [.str x, .ref b] ∧ Sq kb K H1 b ys ∧ R (ItzS x kb K b) H1
theorem pi_zipS {X : Cx} {e e2 : Expr} {ta : TA} {p pos tpos : Pos} {elts : List Expr} {kk : Nat} (hg : Gl X "zip") (hm : X.mg "zip" = none) (ha : PA X [e, e2] ta)
    (hs : starEach [e, e2] X.env = (false, eval e X.env) :: starEach [e2] X.env := by rfl) (hpl : (backTo pos (starEach [e2] X.env)).any (·.1) = false := by rfl) :
    PI X (.Tuple elts kk tpos) (.Call (.Name "zip" p) [e, e2] [] pos) (iZipS X.K ta) := by
  refine ⟨fun pins s σ H R I h => ?_⟩
  refine Call_ (ld_blt I hg hm PyProof.Rows.boot_zip (PyProof.Rows.callWith_type1 (thn (ha.run pos pins s σ H _ I h) fun us s1 ⟨vs, H1, I1, r1, q1⟩ => ?_) hs hpl))
  obtain ⟨x, b, kb, ys, ex, hqy, q⟩ := q1
  subst ex
  cases r1 with
  | cons r rr =>
    cases rr with
    | cons r' rr =>
      cases rr
      obtain ⟨t, rfl⟩ := r
      cases r'
      have fresh5 : ∀ c, c ∈ [s1.heap.objs.size + 4, s1.heap.objs.size + 2, s1.heap.objs.size + 3, s1.heap.objs.size, s1.heap.objs.size + 1] → FpOk X pins H1 c := fun c hcm => by
        have e' : c = s1.heap.objs.size + 4 ∨ c = s1.heap.objs.size + 2 ∨ c = s1.heap.objs.size + 3 ∨ c = s1.heap.objs.size ∨ c = s1.heap.objs.size + 1 := by simpa using hcm
        have hle : s1.heap.objs.size ≤ c := by
          rcases e' with z | z | z | z | z
          · rw [z]; exact Nat.le_add_right _ _
          · rw [z]; exact Nat.le_add_right _ _
          · rw [z]; exact Nat.le_add_right _ _
          · rw [z]; exact Nat.le_refl _
          · rw [z]; exact Nat.le_add_right _ _
        exact I1.fpOk hle (I1.hok.fresh hle)
      obtain ⟨its2, rv2, p2, _⟩ := sq_at I1 hqy
      have lb := p2.lt
      refine zip_begins2 (begins_text x t) (sbegins kb b its2.toArray) trivial p2 fun h' hz hTI hTO h1 h2 hsz hk => wpAny_pyIter_zip hz ?_
      have I2 : Inv X pins σ H1 { s1 with heap := h' } := I1.kept (t' := s1.toks) hk
      have one : ∀ {c d : Addr}, d < s1.heap.objs.size → c ∈ [d] → c < s1.heap.objs.size := fun {c d} hd hc => by
        have e : c = d := by simpa using hc
        rw [e]; exact hd
      exact ⟨s1.heap.objs.size + 4, [s1.heap.objs.size + 4, s1.heap.objs.size + 2, s1.heap.objs.size + 3, s1.heap.objs.size, s1.heap.objs.size + 1], _, _, H1, rfl, I2, turn_zipS (t := t) (zip_sep2 (fun c hc => by cases hc) (fun c hc => one lb hc)) (Nat.ne_of_lt (Nat.lt_succ_of_lt lb)), ⟨hz, hTI, ⟨_, _, hTO⟩, ⟨_, h1, rfl, rfl⟩, siter0 h2⟩, fresh5, q⟩
theorem walk_zipS {K : PySem.W.Frag} {x : Str} {kb : Bool} {b : Addr} {ys : List V} {n : Nat} (hn : n = min x.cps.size ys.length) : Walk (ItzS x kb K b) n (fun H => Sq kb K H b ys) (fun i H v H' => ∃ T c y, v = .ref T ∧ H T = none ∧ H' = upd H T (.tup [.str ⟨#[c]⟩, y]) ∧ x.cps[i]? = some c ∧ ys[i]? = some y) :=
  ⟨fun i H hi h => ⟨ys, _, by omega, h, List.getElem?_eq_getElem (by omega)⟩, fun H h => ⟨ys, h, by omega, by omega, by omega⟩,
    fun i H v H' hi h ⟨T, c, y, e1, e2, e3, e4, e5⟩ => ⟨T, c, y, e1, e2, e3, e4, e5 _ h⟩⟩
end Ft
set_option Elab.async false
set_option linter.all false
set_option maxRecDepth 100000
set_option maxHeartbeats 1000000
namespace Ft
open PySem PySem.Spec PyProof.Rows L2
def PTT (X : Cx) (e : Expr) (t : TT) : Prop :=
  ∀ (pins : List (Addr × Obj)) (s : Shared) (σ : L2.St) (H : Hp) (Q : Bool → Hp → Prop), 1 ≤ s.toks → Inv X pins σ H s → t σ H Q → wpAny (model X.prog X.w) X.A (isTrue e X.env (eval e X.env)) (TP X pins σ Q) X.xe s
def PWT (X : Cx) (e : Expr) (t : TT) : Prop :=
  ∀ (whole : Sem Value) (pins : List (Addr × Obj)) (s : Shared) (σ : L2.St) (H : Hp) (Q : Bool → Hp → Prop), 1 ≤ s.toks → Inv X pins σ H s → t σ H Q → wpAny (model X.prog X.w) X.A (isTrue e X.env whole) (TP X pins σ Q) X.xe s
section
variable {X : Cx} {a b e f o : Expr} {rest : List Expr} {ta tb te to : TE} {tA tB' : TT} {pos apos p : Pos}
theorem pwt_or1 (ha : PTT X a tA) : PWT X (.BoolOp .Or [a] pos) tA := by
  intro wh pins s σ H Q h0 I h
  refine isTrue_or (thn (ha pins s σ H Q h0 I h) fun c s1 e => ?_)
  cases c with
  | false => exact isTrue_or_nil e
  | true => exact e
theorem pwt_or (ha : PT X a tA) (hb : PWT X (.BoolOp .Or (b :: rest) pos) tB') : PWT X (.BoolOp .Or (a :: b :: rest) pos) (tOr tA tB') := by
  intro wh pins s σ H Q h0 I h
  refine isTrue_or (wpAny_mono (PySem.wpAny_toks (ha.run pins s σ H _ I h)) (fun c s1 q => ?_) fun _ _ z => z.2)
  obtain ⟨hk, H1, I1, q1⟩ := q
  cases c with
  | true => exact ⟨H1, I1, q1⟩
  | false => exact hb wh pins s1 σ H1 Q (Nat.le_trans h0 hk) I1 q1
theorem ptt_cmpR {op : CmpOp} {r : R2} (ho : OpR X (compareOp op) r) (ha : PET X a ta) (hb : PE X b tb) (hm : behindInMarks op b = false) : PTT X (.Compare a [op] [b] pos) (tTest (tOp r ta tb)) := by
  intro pins s σ H Q h0 I h
  refine wpAny_isTrue_Compare1 (thn (ha pins s σ H _ h0 I h) fun v s1 ⟨x, H1, I1, r1, q1⟩ => thn (hb.run pins s1 σ H1 _ I1 q1) fun u s2 ⟨y, H2, I2, r2, q2⟩ =>
    thn (ho pins s2 σ H2 x y v u _ I2 r1 r2 q2) fun c s3 ⟨z, H3, I3, r3, k, e, q3⟩ => ?_) hm
  subst e
  cases r3
  exact wpAny_truthy_bool ⟨H3, I3, q3⟩
theorem pet_callB {x : Str} {id : String} {r : List V → Hp → VK → Prop} {es : List Expr} {t : TA} (hc : CallR X (.builtin id) r) (hg : Gl X x) (hm : X.mg x = none) (hv : bootBuiltins x = some (.builtin id)) (ha : PAT X (e :: es) t) (hn : x ≠ "__name__" := by decide) (hdb : (x == ("__debug__" : Str)) = false := by decide)
    (he : starEach (e :: es) X.env = (false, eval e X.env) :: starEach es X.env := by rfl) (hpl : (backTo pos (starEach es X.env)).any (·.1) = false := by rfl) : PET X (.Call (.Name x p) (e :: es) [] pos) (tCB r t) := by
  intro pins s σ H Q h0 I h
  refine wpAny_Call_Name_kw (ld_blt I hg hm hv ?_ hn hdb)
  exact PyProof.Rows.callWith_builtin1 (thn (ha pos pins s σ H _ h0 I h) fun us s1 ⟨vs, H1, I1, r1, q1⟩ => hc pins s1 σ H1 vs us Q I1 r1 q1) he hpl
theorem pst_ifT {c : Expr} {st su : List Stmt} {tc : TT} {t u : TS} (hc : PWT X c tc) (ha : PSs X st t) (hb : PSs X su u) : PST X (.If c st su pos) (tIfS tc t u) := by
  intro pins s σ H D h0 I h
  refine wpAny_If (thn (hc _ pins s σ H _ h0 I h) fun d s1 q => ?_)
  obtain ⟨H1, I1, q1⟩ := q
  cases d with
  | true => exact ha.run pins s1 σ H1 D I1 q1
  | false => exact hb.run pins s1 σ H1 D I1 q1
/-- name = x.split(a written text): behind it a token is out -/
theorem pss_splitT {i : Nat} {x c : Str} {j : Nat} {cp pos' pos2 : Pos} {more : List Stmt} {u : TS} (hN : X.N.Nodup) (hi : X.N[i]? = some x) (hx : Loc X.env.scope x) (ho : PE X o to) (h2 : PSsT X more u)
    (hst : starEach [.Constant (.str c) j cp] X.env = [(false, eval (.Constant (.str c) j cp) X.env)] := by rfl) (hbase : attributeBase o "split" X.env (eval o X.env) = eval o X.env := by rfl) (hline : (apos.endLine == pos.line) = true := by rfl)
    (hs : swapsWith (.Call (.Attribute o "split" apos) [.Constant (.str c) j cp] [] pos) (some (.Name x pos')) pos2.line X.env = pure false := by rfl) (hf : X.fn x = true ∨ X.env.scope.names.lookup x = some .local := by first | exact .inl rfl | exact .inr rfl | assumption) :
    PSs X (.Assign [.Name x pos'] (.Call (.Attribute o "split" apos) [.Constant (.str c) j cp] [] pos) pos2 :: more) (tSeq (tAsg (tM1 (fun x xs H Q => ∃ a b, x = .str a ∧ xs = [.str b] ∧ (b.length == 0) = false ∧ a.length + 2 ≤ sizeLine ∧ rNewStrs (Txt.split a b) H Q) to (tC (.str c))) (gName i)) u) := by
  refine ⟨fun pins s σ H D I h => ?_⟩
  refine wpAny_execs_cons (wpAny_Assign_Name (PySem.Call_method1 hbase hst hline (thn (ho.run pins s σ H _ I h) fun v s1 ⟨y, H1, I1, r1, q1⟩ => ?_)) hs)
  obtain ⟨⟨a, rfl⟩, q1⟩ := q1
  obtain ⟨t, rfl⟩ := _root_.id r1
  refine ⟨"str", _, F.plainAttrs_str, F.slot_str_split, F.type_str_split, typeIs_str _ _ _, (fun _ e => nomatch e), Calls.callWith_builtin rfl (Calls.evalArgs_plain (Calls.spliced_cons ?_))⟩
  refine Calls.Constant_str (Calls.spliced_nil ?_)
  refine wpAny_mono (PySem.wpAny_toks (mt_split pins { s1 with toks := s1.toks + 1 } σ H1 _ [.str c] _ [.str c s1.toks] _ (I1.tok _) r1 (.cons ⟨_, rfl⟩ .nil) q1)) (fun v2 s2 q2 => ?_) fun _ _ z => z.2
  obtain ⟨hk, y2, H2, I2, r2, q2⟩ := q2
  have hk' : s1.toks + 1 ≤ s2.toks := hk
  refine wpAny_mono (PySem.wpAny_toks (store_ok I2 hN hi hx r2 (Q := fun _ s3 => Inv X pins (σ.set i (some y2)) H2 s3) (fun _ I3 => I3) hf)) (fun _ s3 q3 => ?_) fun _ _ z => z.2
  exact h2 pins s3 _ H2 D (by have := q3.1; omega) q3.2 q2
end
end Ft
set_option Elab.async false
set_option linter.all false
set_option maxRecDepth 100000
set_option maxHeartbeats 1000000
set_option pp.maxSteps 3000
set_option pp.deepTerms.threshold 8
namespace Ft
open PySem L2 TL
def sgF (f : Str) : Nat := if f = "word" then 119 else if f = "block" then 98 else 110
def sgS (fs : List Str) : Str := ⟨(fs.map sgF).toArray⟩
theorem form_fields : formT = fieldsT.map fun p => (p.1, sgS p.2) := by decide +kernel
theorem formOf_eq (z : Str) : formOf z = (fieldsOf z).map sgS := by
  unfold formOf fieldsOf
  rw [form_fields, List.find?_map]
  have e : ((fun p : Str × Str => decide (p.1 = z)) ∘ fun p : Str × List Str => (p.1, sgS p.2)) = fun p => decide (p.1 = z) := rfl
  rw [e, Option.map_map, Option.map_map]
  rfl
theorem tl_sgS (fs : List Str) : tl (sgS fs) = fs.map sgF := by unfold sgS; rw [tl_mk]
theorem tl_cutHeadN {z : Str} {k : Nat} : tl (cutS z none (some (k : Int))) = (tl z).take k := by
  unfold cutS
  rw [tl_mk, HT.sIx_none, HT.sIx_nat, List.drop_zero, Nat.sub_zero, len_tl z]
  show (tl z).take (min k (tl z).length) = _
  by_cases h : k ≤ (tl z).length
  · rw [Nat.min_eq_left h]
  · rw [Nat.min_eq_right (by omega), List.take_of_length_le (Nat.le_refl _), List.take_of_length_le (by omega)]
theorem cut_starts (z : Str) (n : Nat) : decide (V.str (cutS z none (some ((2 * n : Nat) : Int))) = V.str (ind n)) = Txt.startswith z (ind n) := by
  rw [starts_pre]
  unfold pre
  rw [tl_ind, List.length_replicate]
  by_cases h : (tl z).take (2 * n) = List.replicate (2 * n) 32
  · rw [h, beq_self_eq_true]
    exact decide_eq_true (congrArg V.str (ext_tl (by rw [tl_cutHeadN, tl_ind, h])))
  · rw [beq_eq_false_iff_ne.mpr h]
    refine decide_eq_false fun c => h ?_
    have := congrArg tl (V.str.inj c)
    rw [tl_cutHeadN, tl_ind] at this
    exact this
theorem strike_len (fs : List Str) : (Txt.replace (sgS fs) ("b" : Str) ("" : Str)).length = ((fs.map sgF).filter (· != 98)).length := by
  have e : ("b" : Str) = ⟨#[98]⟩ := by decide +kernel
  have e2 : ("" : Str) = ⟨#[]⟩ := by decide +kernel
  have h := PyProof.Rows.replace_strikes (sgS fs) 98
  rw [show (sgS fs).cps.toList = fs.map sgF from tl_sgS fs] at h
  rw [len_tl, e, e2]
  exact congrArg List.length h
theorem form_tab {w : Str} {fs : List Str} (h : fieldsOf w = some fs) : ((fs.map sgF).filter (· != 98)).length = (plainF fs).length ∧ fs.take (plainF fs).length = plainF fs ∧ (plainF fs).length ≤ fs.length ∧ fs.length ≤ 3 ∧ ∀ f ∈ plainF fs, f = "word" ∨ f = "number" := by
  have all : ∀ p ∈ fieldsT, ((p.2.map sgF).filter (· != 98)).length = (plainF p.2).length ∧ p.2.take (plainF p.2).length = plainF p.2 ∧ (plainF p.2).length ≤ p.2.length ∧ p.2.length ≤ 3 ∧ ∀ f ∈ plainF p.2, f = "word" ∨ f = "number" := by decide +kernel
  exact all _ (fieldsOf_some h)
theorem split_some (z c : Str) : ∃ w ps, Txt.split z c = w :: ps := by
  cases h : Txt.split z c with
  | cons w ps => exact ⟨w, ps, rfl⟩
  | nil =>
    have := PyProof.Rows.split_pos z c
    rw [h] at this
    cases this
theorem mul2 {n : Int} : CMul 2 n := .inl ⟨by decide, by decide⟩
section
variable {P : Program} {w : World} {K : PySem.W.Frag} {mg : Str → Option Value} {base : Heap}
abbrev sLHead : Stmt := topS 49
theorem scLHead : FnScope ["_law_m", "_law_deep", "_law_line_here", "_law_words", "_law_form_here", "_law_found", "_law_sign", "_law_word_here", "_law_thing"] ["_law_m", "_law_deep"] (defScope sLHead) := ⟨rfl, rfl, rfl, by decide +kernel, rfl, by decide +kernel, by decide +kernel⟩
/-- numbers in lines are no longer than int takes -/
def NumSh (L : List Str) : Prop := ∀ z ∈ L, ∀ n, ∀ p ∈ partsOf n z, wrN p = true → p.length ≤ 640
def HdIv (H : Hp) (m : Addr) (n : Nat) (z : Str) (wl : Addr) (fs : List Str) (fl r : Addr) (ps : List Str) (w0 : Str) (i2 : Nat) (σ : St) (H' : Hp) : Prop :=
  Same H H' ∧ H' r = some (.lst (ps.map V.str)) ∧ H' fl = some (.lst (.str w0 :: (((plainF fs).zip ps).take i2).map fun q => valF q.1 q.2)) ∧ (∀ q ∈ ((plainF fs).zip ps).take i2, wrF q.1 q.2 = true) ∧
          ∃ v6 v7 v8, σ = [some (.ref m), some (.int (n : Nat)), some (.str z), some (.ref wl), some (.str (sgS fs)), some (.ref fl), v6, v7, v8]
def spLHead : Sp := fun vs H Q _ => ∃ (m l : Addr) (L : List Str) (i : Nat) (b : Bool) (n : Nat), vs = [.ref m, .int (n : Nat)] ∧ MAt H m l L i b ∧ LnOk L ∧ NumSh L ∧ n ≤ 1000 ∧
  (HeadBad L n i → ∀ H', Same H H' → Q .non H') ∧
  (∀ z w fs ps, L[i]? = some z → HeadRd n z w fs ps → ∀ H' fl, Same H H' → H fl = none → H' fl = some (.lst (.str w :: valsF fs ps)) → Q (.ref fl) H')
theorem ok_LHead {f : Addr} {fd : FuncData} {k : Nat} (F : Fun K "_law_head" "_law_head" sLHead f fd) (B : Bl mg) (hk : 1 ≤ k) (gLLine : Own P w K mg base 1 "_law_line" ["_law_m"] spLLine) (gLForm : Own P w K mg base 1 "_law_form" ["_law_word_here"] spLForm)
    (gLNumberOf : Own P w K mg base 1 "_law_number_of" ["_law_word_here"] spLNumberOf) (gLIsWord : Own P w K mg base 1 "_law_is_word" ["_law_thing"] (spLIsWord K)) : FnOk P w K mg base CX0 (k + 1) f fd ["_law_m", "_law_deep"] spLHead := by
  refine F.ok scLHead (fun vs H Q E h => ?_) (fun cdv A outer s H vs Q E hr h => ?_)
  · obtain ⟨m, l, L, i, b, n, rfl, _⟩ := h
    rfl
  obtain ⟨m, l, L, i, b, n, rfl, h, lok, num, hn, qb, qg⟩ := h
  refine ⟨_, (pss_cons (ps_set (i := 2) scLHead.nd rfl (by first | exact Or.inl rfl | exact Or.inr rfl) (pe_own gLLine (hr.mono (by omega)) (by rfl) (pa_cons (pv 0) pa_nil)))
      (pss_cons (ps_if (PW.pt (pw_or (pt_cmpR op_isN (pv 2) pe_non (nomark _)) (pw_or1 (pt_cmpR op_ne (pe_slice sl_str (pv 2) po_none (po_some (pe_op op_mul pe_int (pv 1)))) (pe_op op_mul_str pe_str (pv 1)) (nomark _))))) (pss_one (ps_ret pe_non)) pss_nil)
      (pss_splitT (i := 3) scLHead.nd rfl (by first | exact Or.inl rfl | exact Or.inr rfl) (pe_slice sl_str (pv 2) (po_some (pe_op op_mul pe_int (pv 1))) po_none)
      (psst_cons (PST.of (ps_set (i := 4) scLHead.nd rfl (by first | exact Or.inl rfl | exact Or.inr rfl) (pe_own gLForm (hr.mono (by omega)) (by rfl) (pa_cons (pe_ix ix_list (pv 3) pe_int (fun _ _ => rfl)) pa_nil))))
      (psst_cons (pst_ifT (pwt_or (pt_cmpR op_isN (pv 4) pe_non (nomark _)) (pwt_or1 (ptt_cmpR op_ne (pet_callB call_len_str (by rfl) B.len (by decide +kernel) (pat_cons (CwR.pet_replC (pv 4)) pat_nil)) (pe_op op_sub (pe_callB call_len_seq (by rfl) B.len (by decide +kernel) (pa_cons (pv 3) pa_nil)) pe_int) (nomark _)))) (pss_one (ps_ret pe_non)) pss_nil)
      (PSsT.of (pss_cons (ps_set (i := 5) scLHead.nd rfl (by first | exact Or.inl rfl | exact Or.inr rfl) (pe_lst (pa_cons (pe_ix ix_list (pv 3) pe_int (fun _ _ => rfl)) pa_nil)))
      (pss_cons (ps_for PassesOwn.never rfl (pi_zipS (by rfl) B.zip (pa_cons (pv 4) (pa_cons (pe_slice sl_list (pv 3) (po_some pe_int) po_none) pa_nil))) (pg_tup (by rfl) (pgs_cons (pg_name (i := 6) scLHead.nd rfl (by first | exact Or.inl rfl | exact Or.inr rfl)) (pgs_cons (pg_name (i := 7) scLHead.nd rfl (by first | exact Or.inl rfl | exact Or.inr rfl)) pgs_nil))) (pss_cons (ps_set (i := 8) scLHead.nd rfl (by first | exact Or.inl rfl | exact Or.inr rfl) (pe_ifExp (pt_cmpR op_eq (pv 6) pe_str (nomark _)) (pe_own gLNumberOf (hr.mono (by omega)) (by rfl) (pa_cons (pv 7) pa_nil)) (pv 7)))
      (pss_cons (ps_if (PW.pt (pw_or (pt_cmpR op_isN (pv 8) pe_non (nomark _)) (pw_or1 (PW.pt (pw_and (pt_cmpR op_eq (pv 6) pe_str (nomark _)) (pw_and1 (pt_not (pt_val (pe_own gLIsWord (hr.mono (by omega)) (by rfl) (pa_cons (pv 7) pa_nil)))))))))) (pss_one (ps_ret pe_non)) pss_nil)
      (pss_one (ps_expr (pe_bm PySem.F.plainAttrs_list PySem.F.slot_list_append PySem.F.type_list_append mt_append (pv 5) (pa_cons (pv 8) pa_nil)))))))
      (pss_one (ps_ret (pv 5))))))))))), ?_⟩
  have bg : sizeLine ≥ 16777216 := by decide
  have il : (ind n).length = 2 * n := by rw [ind_len, Nat.mul_comm]
  have c2 : (2 : Int) * ((n : Nat) : Int) = ((2 * n : Nat) : Int) := by omega
  refine ⟨_, rfl, m, l, L, i, b, rfl, h, ?_⟩
  unfold lineV
  cases hz : L[i]? with
  | none =>
    exact ⟨_, rfl, rfl, _, rfl, iteT (iteT (qb (fun z e => by rw [hz] at e; cases e) H (Same.refl H)))⟩
  | some z =>
    have lz := lok.len _ (List.mem_of_getElem? hz)
    have bad : (∀ w fs ps, ¬ HeadRd n z w fs ps) → HeadBad L n i := fun h z' e => by
      rw [hz] at e
      rw [← Option.some.inj e]
      exact h
    refine ⟨_, rfl, rfl, _, rfl, iteF ?_⟩
    dsimp only
    refine ⟨_, rfl, _, rfl, _, _, rfl, rfl, mul2, _, rfl, z, rfl, by omega, _, rfl, "  ", n, rfl, rfl, by omega, by decide +kernel, by decide +kernel, rfl, _, rfl, ?_⟩
    rw [c2, show repS "  " n = ind n from rfl, cut_starts]
    cases hst : Txt.startswith z (ind n) with
    | false =>
      exact iteT (qb (bad fun w fs ps hd => by rw [hd.st] at hst; cases hst) H (Same.refl H))
    | true =>
      refine iteF ?_
      refine ⟨_, rfl, _, rfl, _, _, rfl, rfl, mul2, _, rfl, z, rfl, by omega, ⟨_, rfl⟩, _, _, rfl, rfl, by decide +kernel, ?_, fun wl nwl => ?_⟩
      · have := cutS_length z (some (2 * ((n : Nat) : Int))) none
        omega
      rw [c2, ← il]
      have hpt : Txt.split (cutS z (some (((ind n).length : Nat) : Int)) none) " " = partsOf n z := rfl
      rw [hpt]
      obtain ⟨w0, ps, hps⟩ : ∃ w ps, partsOf n z = w :: ps := split_some _ _
      have nums := num z (List.mem_of_getElem? hz) n
      rw [hps] at nums ⊢
      have s1 : Same H (upd H wl (.lst ((w0 :: ps).map V.str))) := Same.new nwl
      have hwl : (upd H wl (.lst ((w0 :: ps).map V.str))) wl = some (.lst (.str w0 :: ps.map V.str)) := upd_same
      generalize hG1 : upd H wl _ = G1 at *
      refine ⟨_, rfl, wl, _, _, _, rfl, rfl, SqL.of hwl, atI_nat (j := 0) rfl, w0, rfl, fun H2 s2 => ?_⟩
      have s12 := Same.trans s1 s2
      unfold formV
      rw [formOf_eq]
      have bad1 : (∀ fs, fieldsOf w0 = some fs → ps.length = (plainF fs).length → (∀ q ∈ (plainF fs).zip ps, wrF q.1 q.2 = true) → False) → HeadBad L n i := fun h => bad fun w fs ps' hd => by
        have e := hd.pt
        rw [hps] at e
        obtain ⟨rfl, rfl⟩ := List.cons.inj e
        exact h fs hd.fd hd.len fun q hq => (hd.wr q hq).1
      cases hf : fieldsOf w0 with
      | none => exact ⟨_, rfl, rfl, _, rfl, iteT (iteT (qb (bad1 fun fs e => by rw [hf] at e; cases e) H2 s12))⟩
      | some fs =>
        obtain ⟨t1, t2, t3, t4, t5⟩ := form_tab hf
        have hwl2 := s2 _ _ hwl
        refine ⟨_, rfl, rfl, _, rfl, iteF ?_⟩
        have ls : (sgS fs).length = fs.length := by rw [len_tl, tl_sgS, List.length_map]
        have le0 : ("" : Str).length = 0 := by decide +kernel
        refine ⟨_, rfl, sgS fs, rfl, by rw [le0, ls]; omega, _, rfl, by rw [strike_len]; omega, ?_⟩
        rw [strike_len, t1]
        refine ⟨_, rfl, wl, _, rfl, .inl (SqL.of hwl2), _, _, rfl, rfl, rfl, _, rfl, ?_⟩
        have lps : ((V.str w0 :: ps.map V.str).length : Int) - 1 = (ps.length : Int) := by rw [List.length_cons, List.length_map]; omega
        have lt : (V.int (((plainF fs).length : Nat) : Int) = V.int (((V.str w0 :: ps.map V.str).length : Int) - 1)) ↔ ps.length = (plainF fs).length := by
          rw [lps]
          exact ⟨fun z => (Int.ofNat.inj (V.int.inj z)).symm, fun z => by rw [z]⟩
        dsimp only
        by_cases hlen : ps.length = (plainF fs).length
        case neg =>
          rw [decide_eq_false (fun z => hlen (lt.mp z))]
          exact iteT (qb (bad1 fun fs2 e h2 _ => by rw [hf] at e; rw [← Option.some.inj e] at h2; exact hlen h2) H2 s12)
        rw [decide_eq_true (lt.mpr hlen)]
        refine iteF ⟨_, rfl, wl, _, _, _, rfl, rfl, SqL.of hwl2, atI_nat (j := 0) rfl, (by show 1 ≤ sizeLine; decide), fun fl nfl => ?_⟩
        have s3 : Same H2 (upd H2 fl (.lst [.str w0])) := Same.new nfl
        have hfl : (upd H2 fl (.lst [.str w0])) fl = some (.lst [.str w0]) := upd_same
        generalize hG3 : upd H2 fl _ = G3 at *
        have nflH : H fl = none := Same.free s12 nfl
        have s13 := Same.trans s12 s3
        -- the things behind the word
        refine ⟨_, rfl, _, rfl, 1, rfl, wl, _, rfl, SqL.of (s3 _ _ hwl2), fun r nr => ?_⟩
        rw [cut1]
        have s4 : Same G3 (upd G3 r (.lst (ps.map V.str))) := Same.new nr
        have hr4 : (upd G3 r (.lst (ps.map V.str))) r = some (.lst (ps.map V.str)) := upd_same
        generalize hG4 : upd G3 r _ = G4 at *
        have s14 := Same.trans s13 s4
        have nrH : H r = none := Same.free s13 nr
        have hfl4 := s4 _ _ hfl
        have rfl_ : r ≠ fl := fun e => by rw [e, hfl] at nr; cases nr
        have lz2 : ((plainF fs).zip ps).length = ps.length := by rw [List.length_zip]; omega
        have csz : (sgS fs).cps.size = fs.length := by rw [← ls]; rfl
        refine ⟨sgS fs, r, true, _, rfl, sq_of (kd := true) hr4, ?_⟩
        refine for_it (walk_zipS (n := ps.length) (by rw [List.length_map, csz]; omega)) (fun i2 σ H' => HdIv H m n z wl fs fl r ps w0 i2 σ H')
          ⟨s14, hr4, hfl4, (fun q hq => by cases hq), _, _, _, rfl⟩ (fun i2 σ H' _ h => sq_of (kd := true) h.2.1) ?_ ?_
        · rintro i2 x σ H5 H6 hi ⟨s5, hr5, hfl5, hw5, v6, v7, v8, rfl⟩ ⟨T, c, y, rfl, nT, rfl, hc, hy⟩
          rw [List.getElem?_map] at hy
          obtain ⟨p, hp, rfl⟩ := Option.map_eq_some_iff.mp hy
          have hip : i2 < ps.length := (List.getElem?_eq_some_iff.mp hp).1
          have hnm : (plainF fs)[i2]? = some (plainF fs)[i2] := List.getElem?_eq_getElem (by omega)
          generalize (plainF fs)[i2] = name at hnm
          have hcc : c = sgF name := by
            have h1 : (tl (sgS fs))[i2]? = some c := by rw [Array.getElem?_toList]; exact hc
            rw [tl_sgS, List.getElem?_map] at h1
            have h2 : fs[i2]? = some name := by
              rw [← t2, List.getElem?_take] at hnm
              rw [if_pos (by omega)] at hnm
              exact hnm
            rw [h2] at h1
            exact (Option.some.inj h1).symm
          have hq : ((plainF fs).zip ps)[i2]? = some (name, p) := List.getElem?_zip_eq_some.mpr ⟨hnm, hp⟩
          have mz : p ∈ w0 :: ps := List.mem_cons_of_mem _ (List.mem_of_getElem? hp)
          have lp : p.length ≤ 15000002 := by
            have h4 := PyProof.Rows.split_weight (cutS z (some (((ind n).length : Nat) : Int)) none) " " (by decide +kernel)
            have h3 : p.length ≤ szL (Txt.split (cutS z (some (((ind n).length : Nat) : Int)) none) " ") := mem_szL (by rw [hpt, hps]; exact mz)
            have h5 : szL (Txt.split (cutS z (some (((ind n).length : Nat) : Int)) none) " ") ≤ (cutS z (some (((ind n).length : Nat) : Int)) none).length + 1 := h4
            have := cutS_length z (some (((ind n).length : Nat) : Int)) none
            omega
          have badi : wrF name p = false → HeadBad L n i := fun hw => bad1 fun fs2 e _ h => by
            rw [hf] at e
            rw [← Option.some.inj e] at h
            have := h _ (List.mem_of_getElem? hq)
            rw [hw] at this
            cases this
          have et : ((plainF fs).zip ps).take (i2 + 1) = ((plainF fs).zip ps).take i2 ++ [(name, p)] := by rw [List.take_add_one, hq]; rfl
          have s6 : Same H5 (upd H5 T (.tup [.str ⟨#[c]⟩, .str p])) := Same.new nT
          have hT : (upd H5 T (.tup [.str ⟨#[c]⟩, .str p])) T = some (.tup [.str ⟨#[c]⟩, .str p]) := upd_same
          generalize hG6 : upd H5 T _ = G6 at *
          refine ⟨T, _, rfl, SqT.of hT, rfl, _, _, rfl, _, _, rfl, rfl, ?_⟩
          have en : ("n" : Str) = ⟨#[110]⟩ := by decide +kernel
          have ew : ("w" : Str) = ⟨#[119]⟩ := by decide +kernel
          have sg : ∀ {a b : Nat}, V.str (⟨#[a]⟩ : Str) = V.str ⟨#[b]⟩ → a = b := fun z => by
            have z := V.str.inj z
            injection z with z; injection z with z; injection z
          have s56 := Same.trans s5 s6
          have fin : ∀ {G7 : Hp} {v : V}, Same G6 G7 → wrF name p = true → valF name p = v → ∀ v6 v7 v8, HdIv H m n z wl fs fl r ps w0 (i2 + 1) [some (.ref m), some (.int (n : Nat)), some (.str z), some (.ref wl), some (.str (sgS fs)), some (.ref fl), v6, v7, v8] (upd G7 fl (.lst ((V.str w0 :: (((plainF fs).zip ps).take i2).map fun q => valF q.1 q.2) ++ [v]))) := fun {G7 v} s7 hw hv v6 v7 v8 => by
            refine ⟨Same.upN (Same.trans s56 s7) nflH, by rw [upd_ne rfl_]; exact s7 _ _ (s6 _ _ hr5), ?_, fun q hq => ?_, _, _, _, rfl⟩
            · rw [upd_same, et, List.map_append, List.map_cons, List.map_nil, hv]
              rfl
            · rw [et] at hq
              rcases List.mem_append.mp hq with hq | hq
              · exact hw5 q hq
              · rw [List.mem_singleton.mp hq]
                exact hw
          have lfl : (V.str w0 :: (((plainF fs).zip ps).take i2).map fun q => valF q.1 q.2).length ≤ 16000000 := by
            rw [List.length_cons, List.length_map, List.length_take]
            omega
          rcases t5 name (List.mem_of_getElem? hnm) with rfl | rfl
          · have ec : c = 119 := hcc
            subst ec
            refine ⟨_, rfl, rfl, _, rfl, ?_⟩
            rw [decide_eq_false (by rw [en]; intro z; have := sg z; omega)]
            refine iteF ⟨_, rfl, _, rfl, rfl, _, rfl, iteF ⟨_, rfl, rfl, _, rfl, ?_⟩⟩
            rw [decide_eq_true (by rw [ew])]
            refine iteT ⟨_, rfl, .str p, rfl, .inl ⟨p, rfl, by omega⟩, fun G7 s7 => ⟨_, rfl, ?_⟩⟩
            rw [show wordV (.str p) = wrF "word" p from rfl]
            cases hw : wrF "word" p with
            | false => exact iteT (qb (badi hw) _ (Same.trans s56 s7))
            | true =>
              have hfl7 := s7 _ _ (s6 _ _ hfl5)
              exact iteF ⟨_, rfl, .inl ⟨rfl, _, SqL.of hfl7⟩, _, rfl, fl, _, _, rfl, rfl, hfl7, big lfl, fin s7 hw rfl _ _ _⟩
          · have ec : c = 110 := hcc
            subst ec
            refine ⟨_, rfl, rfl, _, rfl, ?_⟩
            rw [decide_eq_true (by rw [en])]
            refine iteT ⟨_, rfl, p, rfl, by omega, nums p mz, fun G7 s7 => ?_⟩
            unfold numV
            cases hw : wrN p with
            | false =>
              rw [if_neg Bool.false_ne_true]
              exact ⟨_, rfl, rfl, _, rfl, iteT (iteT (qb (badi hw) _ (Same.trans s56 s7)))⟩
            | true =>
              rw [if_pos rfl]
              refine ⟨_, rfl, rfl, _, rfl, iteF ⟨_, rfl, rfl, _, rfl, ?_⟩⟩
              rw [decide_eq_false (by rw [ew]; intro z; have := sg z; omega)]
              have hfl7 := s7 _ _ (s6 _ _ hfl5)
              exact iteF (iteF ⟨_, rfl, .inl ⟨rfl, _, SqL.of hfl7⟩, _, rfl, fl, _, _, rfl, rfl, hfl7, big lfl, fin s7 hw rfl _ _ _⟩)
        · rintro σ H5 ⟨s5, hr5, hfl5, hw5, v6, v7, v8, rfl⟩
          rw [← lz2, List.take_length] at hfl5 hw5
          exact ⟨_, rfl, qg z w0 fs ps hz (headRd_of hst hps hf hlen hw5) H5 fl s5 nflH hfl5⟩
end
end Ft
set_option Elab.async false
set_option linter.all false
set_option maxRecDepth 100000
set_option maxHeartbeats 1000000
namespace Ft
open PySem L2
/-- what never raises keeps its promise in any context -/
theorem fn_any {CX : CXT} {P : PySem.Program} {w : World} {K : PySem.W.Frag} {mg : Str → Option Value} {base : Heap} {k : Nat} {f : Addr} {fd : FuncData} {ps : List Str} {sp : Sp} (h : FnOk P w K mg base CX0 k f fd ps sp) : FnOk P w K mg base CX k f fd ps sp :=
  ⟨h.len, fun A outer s H args us vs Q E hr e0 hb r hs => codeAny_mono (h.run A outer s H args us vs Q E hr e0 hb r hs) fun rr s' hq => match rr, hq with
    | .error e, hq => False.elim hq
    | .ok (.ret _), hq => hq
    | .ok .next, hq => hq
    | .ok .brk, hq => hq
    | .ok .cont, hq => hq⟩
theorem fn_orE {P : PySem.Program} {w : World} {K : PySem.W.Frag} {mg : Str → Option Value} {base : Heap} {CX : CXT} {k : Nat} {f : Addr} {fd : FuncData} {ps : List Str} {s1 s2 : Sp} (h1 : FnOk P w K mg base CX k f fd ps s1) (h2 : FnOk P w K mg base CX k f fd ps s2) : FnOk P w K mg base CX k f fd ps (fun vs H Q E => s1 vs H Q E ∨ s2 vs H Q E) :=
  ⟨fun vs H Q E s => s.elim (h1.len vs H Q E) (h2.len vs H Q E), fun a b c d e f g h i j k l m s => s.elim (h1.run a b c d e f g h i j k l m) (h2.run a b c d e f g h i j k l m)⟩
structure OwnE (P : PySem.Program) (w : World) (K : PySem.W.Frag) (mg : Str → Option Value) (base : Heap) (k : Nat) (x : Str) (ps : List Str) (sp : Sp) : Prop where
  ex : ∃ (f : Addr) (fd : FuncData), FnOk P w K mg base (L2N.CX P w) k f fd ps sp ∧ mg x = some (.ref f) ∧ PySem.W.keepIn K (.ref f) = true ∧ Binds K fd ps []
theorem pe_ownE {X : Cx} {k : Nat} {x : Str} {ps : List Str} {sp : Sp} {W : WX} {p pos : Pos} {e : Expr} {es : List Expr} {t : TA} (G : OwnE X.prog X.w X.K X.mg X.base k x ps sp) (hr : Room k X.A) (tk : L2N.Takes X W) (hg : Gl X x) (ha : PA X (e :: es) t)
    (hdb : (x == ("__debug__" : Str)) = false := by decide) (he : starEach (e :: es) X.env = (false, eval e X.env) :: starEach es X.env := by rfl) (hpl : (backTo pos (starEach es X.env)).any (·.1) = false := by rfl) :
    PE X (.Call (.Name x p) (e :: es) [] pos) (tCallS sp (WE W) t) := by
  obtain ⟨f, fd, F, m, kp, b⟩ := G.ex
  exact pe_callS F hr hg m kp b (fun σ => L2N.passAt tk σ) ha hdb he hpl
/-- a def of the module that may go wrong, by what it does where it goes right, and where it goes wrong -/
theorem ownE_mk {P : PySem.Program} {w : World} {K : PySem.W.Frag} {mg : Str → Option Value} {base : Heap} {k : Nat} {x qual : Str} {st : Stmt} {f : Addr} {fd : FuncData} {ps : List Str} {s1 s2 : Sp} (F : Fun K x qual st f fd) (m : mg x = some (.ref f)) (b : Binds K fd ps [])
    (h1 : FnOk P w K mg base CX0 k f fd ps s1) (h2 : FnOk P w K mg base (L2N.CX P w) k f fd ps s2) : OwnE P w K mg base k x ps (fun vs H Q E => s1 vs H Q E ∨ s2 vs H Q E) :=
  ⟨f, fd, fn_orE (fn_any h1) h2, m, F.kp, b⟩
end Ft
set_option Elab.async false
set_option linter.all false
set_option maxRecDepth 100000
set_option maxHeartbeats 1000000
set_option pp.maxSteps 3000
set_option pp.deepTerms.threshold 8
namespace Ft
open PySem L2 TL
theorem spl_some (S : List Nat) : ∀ (l : List Nat) (k : Nat) (acc : List Nat), spl S k acc l ≠ []
  | [], k, acc => by rw [spl_nil]; simp
  | c :: r, 0, acc => by
    by_cases h : pre S (c :: r) = true
    · rw [spl_hit h]; simp
    · rw [spl_miss (by simpa using h)]; exact spl_some S r 0 _
  | c :: r, k + 1, acc => spl_some S r k acc
theorem parts_some (n : Nat) (z : Str) : ∃ w ps, partsOf n z = w :: ps := by
  have h := split_spl (cutS z (some ((ind n).length : Int)) none) " " (by rw [tl_space]; simp) (kind_ok (by decide +kernel))
  cases e : partsOf n z with
  | cons w ps => exact ⟨w, ps, rfl⟩
  | nil =>
    exfalso
    unfold partsOf at e
    rw [e] at h
    exact spl_some _ _ _ _ h.symm
theorem rdBlks_len {Rec : Nat → List Row → Nat → Prop} {L : List Str} {n : Nat} (hR : ∀ a b c, Rec a b c → c ≤ L.length) {j m a c : Nat} {bs : List (List Row)} (h : RdBlks Rec L n j m a bs c) : a ≤ L.length → c ≤ L.length := by
  induction h with
  | nil => exact id
  | cons _ _ h1 _ ih => exact fun _ => ih (hR _ _ _ h1)
theorem rdRow_len {Rec : Nat → List Row → Nat → Prop} {L : List Str} {n a c : Nat} {r : Row} (hR : ∀ a b c, Rec a b c → c ≤ L.length) (h : RdRow Rec L n a r c) : c ≤ L.length := by
  obtain ⟨z, w, fs, ps, bs, hz, _, hb, _⟩ := h
  exact rdBlks_len hR hb (List.getElem?_eq_some_iff.mp hz).1
theorem rdMore_len {R : Nat → Row → Nat → Prop} {L : List Str} {n a c : Nat} {rs : List Row} (hR : ∀ a b c, R a b c → c ≤ L.length) (h : RdMore R L n a rs c) : a ≤ L.length → c ≤ L.length := by
  induction h with
  | stop => exact id
  | step _ h1 _ ih => exact fun _ => ih (hR _ _ _ h1)
theorem rdRows_len {L : List Str} : ∀ {d n a c : Nat} {rs : List Row}, RdRows L d n a rs c → c ≤ L.length
  | 0, _, _, _, _, h => h.elim
  | d + 1, n, a, c, rs, h => by
    rcases h with ⟨h, _, e⟩ | ⟨_, r, rest, a1, _, h1, h2⟩
    · have := (List.getElem?_eq_some_iff.mp h).1
      omega
    · exact rdMore_len (fun _ _ _ h => rdRow_len (fun _ _ _ h => rdRows_len h) h) h2 (rdRow_len (fun _ _ _ h => rdRows_len h) h1)
section
variable {P : Program} {w : World} {K : PySem.W.Frag} {mg : Str → Option Value} {base : Heap}
def spReadRowE (d : Nat) (CT : Addr) : Sp := fun vs H _ E => ∃ (l : Addr) (L : List Str) (i n e : Nat), vs = [.ref l, .int i, .str (ind n)] ∧ H l = some (.lst (L.map V.str)) ∧ LnOk L ∧ i ≤ L.length ∧ n + d ≤ 1000 ∧ RowE (RdRows L d (n + 1)) (RowsE L d (n + 1)) L n i e ∧ XBad CT "line" (.int (e : Nat)) H E
def spReadRowsE (d : Nat) (CT : Addr) : Sp := fun vs H _ E => ∃ (l : Addr) (L : List Str) (i n e : Nat), vs = [.ref l, .int i, .str (ind n)] ∧ H l = some (.lst (L.map V.str)) ∧ LnOk L ∧ i ≤ L.length ∧ n + d ≤ 1000 ∧ RowsE L (d + 1) n i e ∧ XBad CT "line" (.int (e : Nat)) H E
theorem ok_ReadRowE {f dF CT : Addr} {fd : FuncData} {k d : Nat} {spF spFE : Sp} {tS : Tok} (F : Fun K "read_row" "read_row" sReadRow f fd) (B : Bl mg) (TF : FldT K w mg dF) (mS : mg "STEP" = some (.str "  " tS)) (hk : 2 ≤ k) (eT : ErrT P w K mg base "BadText" "line" ["self", "line"] CT)
    (gIsWritten : Own P w K mg base 2 "is_written" ["field", "part"] spIsWritten) (gNumberOf : Own P w K mg base 1 "number_of" ["part"] spNumberOf)
    (gEReadRows : OwnE P w K mg base k "read_rows" ["lines", "at", "indent"] (fun vs H Q E => spF vs H Q E ∨ spFE vs H Q E)) (hF : ∀ e, d = e + 1 → spF = spReadRows e ∧ spFE = spReadRowsE e CT) : FnOk P w K mg base (L2N.CX P w) (k + 1) f fd ["lines", "at", "indent"] (spReadRowE d CT) := by
  obtain ⟨es, nn, D⟩ := TF.dict
  refine okN F scReadRow (fun vs H Q E h => ?_) (fun cdv A outer s H vs Q E hr h => ?_)
  · obtain ⟨l, L, i, n, e, rfl, _⟩ := h
    rfl
  obtain ⟨l, L, i, n, e, rfl, hl, lok, hiL, hn, hrow, q⟩ := h
  refine ⟨_, (pss_cons (ps_if (PW.pt (pw_or (pt_cmpR op_eq (pv 1) (pe_callB call_len_seq (by rfl) B.len (by decide +kernel) (pa_cons (pv 0) pa_nil)) (nomark _)) (pw_or1 (pt_not (pt_val (pe_m1 PySem.F.slot_str_startswith PySem.F.type_str_startswith mt_startswith (pe_ix ix_list (pv 0) (pv 1) (fun _ _ => rfl)) (pv 2))))))) (pss_one (ps_raiseE rfl eT (hr.mono (by omega)) (L2N.takes_of rfl rfl rfl rfl) (pa_cons (pe_op op_add (pv 1) pe_int) pa_nil))) pss_nil)
      (pss_cons (ps_set (i := 3) scReadRow.nd rfl (by first | exact Or.inl rfl | exact Or.inr rfl) (pe_split (pe_slice sl_str (pe_ix ix_list (pv 0) (pv 1) (fun _ _ => rfl)) (po_some (pe_callB call_len_str (by rfl) B.len (by decide +kernel) (pa_cons (pv 2) pa_nil))) po_none) pe_str))
      (pss_cons (ps_if (pt_cmpR (op_notIn_kd D) (pe_ix ix_list (pv 3) pe_int (fun _ _ => rfl)) (pe_glob (v := .ref dF) (by rfl) TF.g rfl) (by rfl)) (pss_one (ps_raiseE rfl eT (hr.mono (by omega)) (L2N.takes_of rfl rfl rfl rfl) (pa_cons (pe_op op_add (pv 1) pe_int) pa_nil))) pss_nil)
      (pss_cons (ps_setLc (i := 4) (own := [("field", 5)]) (g := (gName 5)) (by rfl) scReadRow.nd rfl rfl (sw_true rfl rfl rfl (by decide +kernel)) (pi_tup (pe_ix ix_kdict (pe_glob (v := .ref dF) (by rfl) TF.g rfl) (pe_ix ix_list (pv 3) pe_int (fun _ _ => rfl)) (fun _ _ => rfl))) (blkOk_by (own := [("field", 5)]) (N := ["lines", "at", "indent", "parts", "plain", "field", "part", "row", "b", "block"]) (sc := defScope sReadRow) (by decide +kernel)) (fun _ _ _ _ _ => (pg_name (i := 5) scReadRow.nd rfl (by first | exact Or.inl rfl | exact Or.inr rfl))) (fun _ _ _ _ _ => (pts_one (pt_cmpR op_ne (pv 5) pe_str (nomark _)))) (fun _ _ _ _ _ => (pv 5)))
      (pss_cons (ps_if (PW.pt (pw_or (pt_cmpR op_ne (pe_callB call_len_seq (by rfl) B.len (by decide +kernel) (pa_cons (pv 3) pa_nil)) (pe_op op_add (pe_callB call_len_seq (by rfl) B.len (by decide +kernel) (pa_cons (pv 4) pa_nil)) pe_int) (nomark _)) (pw_or1 (pt_not (pt_val (pe_callB (cr_all rfl) (by rfl) B.all (by decide +kernel) (pa_cons (pe_lc (own := [("field", 5), ("part", 6)]) (g := (gTup _ 2 (gCons (gName 5) (gCons (gName 6) gNil)))) (tt := tYes) (by rfl) scReadRow.nd (pi_zipQ (by rfl) B.zip (pa_cons (pv 4) (pa_cons (pe_slice sl_list (pv 3) (po_some pe_int) po_none) pa_nil))) (blkOk_by (own := [("field", 5), ("part", 6)]) (N := ["lines", "at", "indent", "parts", "plain", "field", "part", "row", "b", "block"]) (sc := defScope sReadRow) (by decide +kernel)) (fun _ _ _ _ _ => (pg_tup (by rfl) (pgs_cons (pg_name (i := 5) scReadRow.nd rfl (by first | exact Or.inl rfl | exact Or.inr rfl)) (pgs_cons (pg_name (i := 6) scReadRow.nd rfl (by first | exact Or.inl rfl | exact Or.inr rfl)) pgs_nil)))) (fun _ _ _ _ _ => pts_nil) (fun _ _ _ _ _ => (pe_own gIsWritten (hr.mono (by omega)) (by rfl) (pa_cons (pv 5) (pa_cons (pv 6) pa_nil))))) pa_nil))))))) (pss_one (ps_raiseE rfl eT (hr.mono (by omega)) (L2N.takes_of rfl rfl rfl rfl) (pa_cons (pe_op op_add (pv 1) pe_int) pa_nil))) pss_nil)
      (pss_cons (ps_set (i := 7) scReadRow.nd rfl (by first | exact Or.inl rfl | exact Or.inr rfl) (pe_op op_cat (pe_lst (pa_cons (pe_ix ix_list (pv 3) pe_int (fun _ _ => rfl)) pa_nil)) (pe_lc (own := [("field", 5), ("part", 6)]) (g := (gTup _ 2 (gCons (gName 5) (gCons (gName 6) gNil)))) (tt := tYes) (by rfl) scReadRow.nd (pi_zipQ (by rfl) B.zip (pa_cons (pv 4) (pa_cons (pe_slice sl_list (pv 3) (po_some pe_int) po_none) pa_nil))) (blkOk_by (own := [("field", 5), ("part", 6)]) (N := ["lines", "at", "indent", "parts", "plain", "field", "part", "row", "b", "block"]) (sc := defScope sReadRow) (by decide +kernel)) (fun _ _ _ _ _ => (pg_tup (by rfl) (pgs_cons (pg_name (i := 5) scReadRow.nd rfl (by first | exact Or.inl rfl | exact Or.inr rfl)) (pgs_cons (pg_name (i := 6) scReadRow.nd rfl (by first | exact Or.inl rfl | exact Or.inr rfl)) pgs_nil)))) (fun _ _ _ _ _ => pts_nil) (fun _ _ _ _ _ => (pe_ifExp (pt_cmpR op_eq (pv 5) pe_str (nomark _)) (pv 6) (pe_own gNumberOf (hr.mono (by omega)) (by rfl) (pa_cons (pv 6) pa_nil)))))))
      (pss_cons (ps_aug (i := 1) scReadRow.nd rfl (by first | exact Or.inl rfl | exact Or.inr rfl) pe_int ip_add)
      (pss_cons (ps_for (L2.passes_of rfl) rfl (pi_range1 (by rfl) B.range (pa_cons (pe_op op_sub (pe_callB call_len_seq (by rfl) B.len (by decide +kernel) (pa_cons (pe_ix ix_kdict (pe_glob (v := .ref dF) (by rfl) TF.g rfl) (pe_ix ix_list (pv 3) pe_int (fun _ _ => rfl)) (fun _ _ => rfl)) pa_nil)) (pe_callB call_len_seq (by rfl) B.len (by decide +kernel) (pa_cons (pv 4) pa_nil))) pa_nil)) (pg_name (i := 8) scReadRow.nd rfl (by first | exact Or.inl rfl | exact Or.inr rfl)) (pss_cut (ps_if (pt_cmpR op_eq (pv 8) pe_int (nomark _)) (pss_cons (ps_if (PW.pt (pw_or (pt_cmpR op_eq (pv 1) (pe_callB call_len_seq (by rfl) B.len (by decide +kernel) (pa_cons (pv 0) pa_nil)) (nomark _)) (pw_or1 (pt_cmpR op_ne (pe_ix ix_list (pv 0) (pv 1) (fun _ _ => rfl)) (pe_op op_add_str (pv 2) pe_str) (nomark _))))) (pss_one (ps_raiseE rfl eT (hr.mono (by omega)) (L2N.takes_of rfl rfl rfl rfl) (pa_cons (pe_op op_add (pv 1) pe_int) pa_nil))) pss_nil)
      (pss_one (ps_aug (i := 1) scReadRow.nd rfl (by first | exact Or.inl rfl | exact Or.inr rfl) pe_int ip_add))) pss_nil)
      (pss_cons (ps_asg (pe_ownE gEReadRows (hr.mono (by omega)) (L2N.takes_of rfl rfl rfl rfl) (by rfl) (pa_cons (pv 0) (pa_cons (pv 1) (pa_cons (pe_op op_add_str (pv 2) (pe_glob (v := .str "  ") (by rfl) mS ⟨_, rfl⟩)) pa_nil)))) (pg_tup (by rfl) (pgs_cons (pg_name (i := 9) scReadRow.nd rfl (by first | exact Or.inl rfl | exact Or.inr rfl)) (pgs_cons (pg_name (i := 1) scReadRow.nd rfl (by first | exact Or.inl rfl | exact Or.inr rfl)) pgs_nil))))
      (pss_one (ps_expr (pe_bm PySem.F.plainAttrs_list PySem.F.slot_list_append PySem.F.type_list_append mt_append (pv 7) (pa_cons (pv 9) pa_nil)))))))
      (pss_one (ps_ret (pe_tup (pa_cons (pv 7) (pa_cons (pv 1) pa_nil))))))))))))), ?_⟩
  rcases hrow with ⟨hbad, rfl⟩ | ⟨z, w0, fs, ps, hz, hd, hb⟩
  · have bg : sizeLine ≥ 16777216 := by decide
    have il : (ind n).length ≤ 2000 := by rw [ind_len]; omega
    refine ⟨_, rfl, _, rfl, l, _, rfl, .inl (SqL.of hl), rfl, _, rfl, ?_⟩
    by_cases hiE : i = L.length
    · rw [decide_eq_true (by rw [List.length_map, hiE])]
      exact iteT (iteT ⟨_, rfl, _, _, rfl, rfl, mkE fun d nd => q _ d (Same.refl _) nd⟩)
    have hi : i < L.length := by omega
    have hz : L[i]? = some L[i] := List.getElem?_eq_getElem hi
    generalize L[i] = z at hz
    have lz : z.length ≤ 15000000 := lok.len z (List.mem_of_getElem? hz)
    have ix : atI (L.map V.str) (i : Int) = some (.str z) := atI_nat (by rw [List.getElem?_map, hz]; rfl)
    rw [decide_eq_false (show ¬ V.int (i : Int) = V.int ((L.map V.str).length : Nat) from fun z => by
      have := V.int.inj z
      rw [List.length_map] at this
      omega)]
    refine iteF ⟨_, rfl, _, rfl, l, _, _, _, rfl, rfl, SqL.of hl, ix, ⟨_, rfl⟩, _, rfl, _, _, rfl, rfl, _, rfl, ?_⟩
    cases st : Txt.startswith z (ind n) with
    | false => exact iteT ⟨_, rfl, _, _, rfl, rfl, mkE fun d nd => q _ d (Same.refl _) nd⟩
    | true =>
    refine iteF ?_
    obtain ⟨w0, ps, pt⟩ := parts_some n z
    refine ⟨_, rfl, _, rfl, l, _, _, _, rfl, rfl, SqL.of hl, ix, _, rfl, _, rfl, (by omega), _, rfl, z, rfl, (by omega), ⟨_, rfl⟩, _, _, rfl, rfl, (by decide +kernel), (by have := cutS_length z (some ((ind n).length : Int)) none; omega), fun p np => ?_⟩
    have ept : Txt.split (cutS z (some ((ind n).length : Int)) none) " " = w0 :: ps := pt
    rw [ept]
    have s1 : Same H (upd H p (.lst ((w0 :: ps).map V.str))) := Same.new np
    have hp1 : (upd H p (.lst ((w0 :: ps).map V.str))) p = some (.lst ((w0 :: ps).map V.str)) := upd_same
    generalize hG1 : upd H p _ = G1 at *
    have at0 : atI ((w0 :: ps).map V.str) 0 = some (.str w0) := atI_nat (j := 0) rfl
    cases hf : fieldsOf w0 with
    | none =>
      exact ⟨_, rfl, p, _, 0, _, rfl, rfl, SqL.of hp1, at0, w0, _, rfl, rfl, TF.no _ (fieldsOf_none hf), _, rfl, iteT ⟨_, rfl, _, _, rfl, rfl, mkE fun d nd => q _ d s1 nd⟩⟩
    | some fs =>
    have hfs := fieldsOf_some hf
    obtain ⟨tA, hn2, htA⟩ := TF.val _ hfs
    refine ⟨_, rfl, p, _, 0, _, rfl, rfl, SqL.of hp1, at0, w0, _, rfl, rfl, hn2, _, rfl, iteF ?_⟩
    refine ⟨_, rfl, p, _, 0, _, rfl, rfl, SqL.of hp1, at0, dF, w0, .ref tA, rfl, rfl, ⟨es, nn, .ref tA, D.at_, D.lit, hn2, rfl⟩, tA, rfl, ⟨_, htA G1⟩, fun pl npl => ?_⟩
    have fl3 := fields_len hfs
    refine lc_it walk_tup (fun j H' => Same G1 H' ∧ H' pl = some (.lst ((plainF (fs.take j)).map V.str)))
      ⟨Same.new npl, upd_same⟩ (fun j H' _ _ => htA H') ?_ ?_
    · rintro j y H3 H4 hj ⟨s3, hpl⟩ ⟨rfl, hy⟩
      obtain ⟨fj, hfj, rfl⟩ : ∃ fj, fs[j]? = some fj ∧ y = .str fj := by
        rw [List.getElem?_map] at hy
        cases e : fs[j]? with
        | none => rw [e] at hy; cases hy
        | some m => rw [e] at hy; exact ⟨m, rfl, (Option.some.inj hy).symm⟩
      have et : plainF (fs.take (j + 1)) = plainF (fs.take j) ++ plainF [fj] := by
        rw [List.take_add_one, hfj]
        exact List.filter_append ..
      refine ⟨rfl, ?_⟩
      refine ⟨_, rfl, rfl, _, rfl, ?_⟩
      by_cases eb : fj = "block"
      · rw [decide_eq_true (by rw [eb])]
        refine iteF ⟨s3, ?_⟩
        rw [et, eb]
        exact hpl.trans (by simp [plainF])
      · rw [decide_eq_false (fun z => eb (V.str.inj z))]
        refine iteT ⟨_, rfl, _, hpl, ?_, Same.upN s3 npl, ?_⟩
        · have : (plainF (fs.take j)).length ≤ (fs.take j).length := List.length_filter_le _ _
          rw [List.length_take] at this
          exact small (by rw [List.length_map]; omega)
        · rw [upd_same, et, List.map_append]
          have : plainF [fj] = [fj] := by simp [plainF, eb]
          rw [this]
          rfl
    rintro G2 ⟨s2, hpl⟩
    rw [List.length_map, List.take_length] at hpl
    have hpl : G2 pl = some (.lst ((plainF fs).map V.str)) := hpl
    have hp2 := s2 _ _ hp1
    have lpl : (plainF fs).length ≤ 3 := Nat.le_trans (List.length_filter_le _ _) fl3
    refine ⟨_, rfl, p, _, rfl, .inl (SqL.of hp2), _, rfl, pl, _, rfl, .inl (SqL.of hpl), _, _, rfl, rfl, rfl, _, rfl, ?_⟩
    have s12 := Same.trans s1 s2
    by_cases hlen : ps.length = (plainF fs).length
    · have lz0 : (!decide (V.int ((List.map V.str (w0 :: ps)).length : Nat) = V.int (((List.map V.str (plainF fs)).length : Nat) + 1))) = false := by
        rw [decide_eq_true (by rw [List.length_map, List.length_map, List.length_cons, hlen]; rfl)]
        rfl
      rw [lz0]
      have lps : ps.length ≤ 3 := by rw [hlen]; exact lpl
      have cutp : cutV ((w0 :: ps).map V.str) (some 1) none = ps.map V.str := cut1 _ _
      refine iteF ⟨_, rfl, _, rfl, 1, rfl, p, _, rfl, SqL.of hp2, fun p3 np3 => ?_⟩
      rw [cutp]
      have s3 : Same G2 (upd G2 p3 (.lst (ps.map V.str))) := Same.new np3
      have hp3 : (upd G2 p3 (.lst (ps.map V.str))) p3 = some (.lst (ps.map V.str)) := upd_same
      generalize hG3 : upd G2 p3 _ = G3 at *
      have hpl3 := s3 _ _ hpl
      have pairs : ∀ {j : Nat} {x1 x2 : V}, ((plainF fs).map V.str)[j]? = some x1 → (ps.map V.str)[j]? = some x2 → ∃ a b, x1 = .str a ∧ x2 = .str b ∧ ((plainF fs).zip ps)[j]? = some (a, b) ∧ b.length ≤ 16000000 := fun {j x1 x2} e1 e2 => by
        rw [List.getElem?_map] at e1 e2
        cases h1 : (plainF fs)[j]? with
        | none => rw [h1] at e1; cases e1
        | some a =>
          cases h2 : ps[j]? with
          | none => rw [h2] at e2; cases e2
          | some b =>
            rw [h1] at e1
            rw [h2] at e2
            refine ⟨a, b, (Option.some.inj e1).symm, (Option.some.inj e2).symm, List.getElem?_zip_eq_some.mpr ⟨h1, h2⟩, ?_⟩
            have hb : b ∈ Txt.split (cutS z (some ((ind n).length : Int)) none) " " := by rw [ept]; exact List.mem_cons_of_mem _ (List.mem_of_getElem? h2)
            have h3 := mem_szL hb
            have h4 := PyProof.Rows.split_weight (cutS z (some ((ind n).length : Int)) none) " " (by decide +kernel)
            have h5 := cutS_length z (some ((ind n).length : Int)) none
            have h6 : szL (Txt.split (cutS z (some ((ind n).length : Int)) none) " ") ≤ z.length + 1 := Nat.le_trans h4 (by omega)
            omega
      refine ⟨pl, p3, true, true, _, _, rfl, sq_of (kd := true) hpl3, sq_of (kd := true) hp3, fun pb npb => ?_⟩
      refine lc_it (walk_zipQ (n := (plainF fs).length) (by rw [List.length_map, List.length_map, hlen]; omega)) (fun j H' => Same G3 H' ∧ H' pb = some (.lst (((((plainF fs).zip ps).take j).map fun q => wrF q.1 q.2).map V.bl)))
        ⟨Same.new npb, upd_same⟩ (fun j H' _ ⟨s4, _⟩ => ⟨sq_of (kd := true) (s4 _ _ hpl3), sq_of (kd := true) (s4 _ _ hp3)⟩) ?_ ?_
      · rintro j y H3 H4 hj ⟨s4, hpb⟩ ⟨T, x1, x2, rfl, nT, rfl, e1, e2⟩
        obtain ⟨a, b, rfl, rfl, hab, lb⟩ := pairs e1 e2
        refine ⟨T, _, rfl, SqT.of upd_same, rfl, _, _, rfl, _, _, rfl, rfl, rfl, ?_⟩
        refine ⟨_, rfl, _, rfl, a, b, rfl, lb, fun H5 s5 => ?_⟩
        have s6 : Same G3 H5 := Same.trans s4 (Same.trans (Same.new nT) s5)
        refine ⟨_, s5 _ _ (Same.new nT _ _ hpb), ?_, Same.upN s6 npb, ?_⟩
        · exact small (by rw [List.length_map, List.length_map, List.length_take]; omega)
        · rw [upd_same, List.take_add_one, hab, List.map_append, List.map_append]
          rfl
      rintro G4 ⟨s4, hpb⟩
      have zl : ((plainF fs).zip ps).length = (plainF fs).length := by rw [List.length_zip, hlen]; omega
      rw [← zl, List.take_length] at hpb
      refine ⟨pb, _, rfl, SqL.of hpb, _, rfl, ?_⟩
      have na : ((((plainF fs).zip ps).map fun q => wrF q.1 q.2).all id) = false := by
        cases c : ((((plainF fs).zip ps).map fun q => wrF q.1 q.2).all id) with
        | false => rfl
        | true =>
          rw [List.all_map] at c
          exact absurd (headRd_of st pt hf hlen fun q hq => List.all_eq_true.mp c q hq) (hbad z hz w0 fs ps)
      rw [na]
      exact iteT ⟨_, rfl, _, _, rfl, rfl, mkE fun d nd => q _ d (Same.trans s12 (Same.trans s3 s4)) nd⟩
    · have lz0 : (!decide (V.int ((List.map V.str (w0 :: ps)).length : Nat) = V.int (((List.map V.str (plainF fs)).length : Nat) + 1))) = true := by
        rw [decide_eq_false (fun z => hlen (by
          have := V.int.inj z
          rw [List.length_map, List.length_map, List.length_cons] at this
          omega))]
        rfl
      rw [lz0]
      exact iteT (iteT ⟨_, rfl, _, _, rfl, rfl, mkE fun d nd => q _ d s12 nd⟩)
  have bg : sizeLine ≥ 16777216 := by decide
  have hi : i < L.length := (List.getElem?_eq_some_iff.mp hz).1
  have lz : z.length ≤ 15000000 := lok.len z (List.mem_of_getElem? hz)
  have ix : atI (L.map V.str) (i : Int) = some (.str z) := atI_nat (by rw [List.getElem?_map, hz]; rfl)
  have il : (ind n).length ≤ 2000 := by rw [ind_len]; omega
  have hfs := fieldsOf_some hd.fd
  obtain ⟨tA, hn2, htA⟩ := TF.val _ hfs
  refine ⟨_, rfl, _, rfl, l, _, rfl, .inl (SqL.of hl), rfl, _, rfl, ?_⟩
  rw [decide_eq_false (show ¬ V.int (i : Int) = V.int ((L.map V.str).length : Nat) from fun z => by
    have := V.int.inj z
    rw [List.length_map] at this
    omega)]
  refine iteF ⟨_, rfl, _, rfl, l, _, _, _, rfl, rfl, SqL.of hl, ix, ⟨_, rfl⟩, _, rfl, _, _, rfl, rfl, _, rfl, ?_⟩
  rw [hd.st]
  refine iteF ?_
  refine ⟨_, rfl, _, rfl, l, _, _, _, rfl, rfl, SqL.of hl, ix, _, rfl, _, rfl, (by omega), _, rfl, z, rfl, (by omega), ⟨_, rfl⟩, _, _, rfl, rfl, (by decide +kernel), (by have := cutS_length z (some ((ind n).length : Int)) none; omega), fun p np => ?_⟩
  have ept : Txt.split (cutS z (some ((ind n).length : Int)) none) " " = w0 :: ps := hd.pt
  rw [ept]
  have s1 : Same H (upd H p (.lst ((w0 :: ps).map V.str))) := Same.new np
  have hp1 : (upd H p (.lst ((w0 :: ps).map V.str))) p = some (.lst ((w0 :: ps).map V.str)) := upd_same
  generalize hG1 : upd H p _ = G1 at *
  have at0 : atI ((w0 :: ps).map V.str) 0 = some (.str w0) := atI_nat (j := 0) rfl
  refine ⟨_, rfl, p, _, 0, _, rfl, rfl, SqL.of hp1, at0, w0, _, rfl, rfl, hn2, _, rfl, iteF ?_⟩
  refine ⟨_, rfl, p, _, 0, _, rfl, rfl, SqL.of hp1, at0, dF, w0, .ref tA, rfl, rfl, ⟨es, nn, .ref tA, D.at_, D.lit, hn2, rfl⟩, tA, rfl, ⟨_, htA G1⟩, fun pl npl => ?_⟩
  have fl3 := fields_len hfs
  refine lc_it walk_tup (fun j H' => Same G1 H' ∧ H' pl = some (.lst ((plainF (fs.take j)).map V.str)))
    ⟨Same.new npl, upd_same⟩ (fun j H' _ _ => htA H') ?_ ?_
  · rintro j y H3 H4 hj ⟨s3, hpl⟩ ⟨rfl, hy⟩
    obtain ⟨fj, hfj, rfl⟩ : ∃ fj, fs[j]? = some fj ∧ y = .str fj := by
      rw [List.getElem?_map] at hy
      cases e : fs[j]? with
      | none => rw [e] at hy; cases hy
      | some m => rw [e] at hy; exact ⟨m, rfl, (Option.some.inj hy).symm⟩
    have et : plainF (fs.take (j + 1)) = plainF (fs.take j) ++ plainF [fj] := by
      rw [List.take_add_one, hfj]
      exact List.filter_append ..
    refine ⟨rfl, ?_⟩
    refine ⟨_, rfl, rfl, _, rfl, ?_⟩
    by_cases eb : fj = "block"
    · rw [decide_eq_true (by rw [eb])]
      refine iteF ⟨s3, ?_⟩
      rw [et, eb]
      exact hpl.trans (by simp [plainF])
    · rw [decide_eq_false (fun z => eb (V.str.inj z))]
      refine iteT ⟨_, rfl, _, hpl, ?_, Same.upN s3 npl, ?_⟩
      · have : (plainF (fs.take j)).length ≤ (fs.take j).length := List.length_filter_le _ _
        rw [List.length_take] at this
        exact small (by rw [List.length_map]; omega)
      · rw [upd_same, et, List.map_append]
        have : plainF [fj] = [fj] := by simp [plainF, eb]
        rw [this]
        rfl
  rintro G2 ⟨s2, hpl⟩
  rw [List.length_map, List.take_length] at hpl
  have hpl : G2 pl = some (.lst ((plainF fs).map V.str)) := hpl
  have hp2 := s2 _ _ hp1
  have lpl : (plainF fs).length ≤ 3 := Nat.le_trans (List.length_filter_le _ _) fl3
  have lps : ps.length ≤ 3 := by rw [hd.len]; exact lpl
  refine ⟨_, rfl, p, _, rfl, .inl (SqL.of hp2), _, rfl, pl, _, rfl, .inl (SqL.of hpl), _, _, rfl, rfl, rfl, _, rfl, ?_⟩
  have lz0 : (!decide (V.int ((List.map V.str (w0 :: ps)).length : Nat) = V.int (((List.map V.str (plainF fs)).length : Nat) + 1))) = false := by
    rw [decide_eq_true (by rw [List.length_map, List.length_map, List.length_cons, hd.len]; rfl)]
    rfl
  rw [lz0]
  have cutp : cutV ((w0 :: ps).map V.str) (some 1) none = ps.map V.str := cut1 _ _
  refine iteF ⟨_, rfl, _, rfl, 1, rfl, p, _, rfl, SqL.of hp2, fun p3 np3 => ?_⟩
  rw [cutp]
  have s3 : Same G2 (upd G2 p3 (.lst (ps.map V.str))) := Same.new np3
  have hp3 : (upd G2 p3 (.lst (ps.map V.str))) p3 = some (.lst (ps.map V.str)) := upd_same
  generalize hG3 : upd G2 p3 _ = G3 at *
  have hpl3 := s3 _ _ hpl
  have pairs : ∀ {j : Nat} {x1 x2 : V}, ((plainF fs).map V.str)[j]? = some x1 → (ps.map V.str)[j]? = some x2 → ∃ a b, x1 = .str a ∧ x2 = .str b ∧ ((plainF fs).zip ps)[j]? = some (a, b) ∧ b.length ≤ 16000000 := fun {j x1 x2} e1 e2 => by
    rw [List.getElem?_map] at e1 e2
    cases h1 : (plainF fs)[j]? with
    | none => rw [h1] at e1; cases e1
    | some a =>
      cases h2 : ps[j]? with
      | none => rw [h2] at e2; cases e2
      | some b =>
        rw [h1] at e1
        rw [h2] at e2
        refine ⟨a, b, (Option.some.inj e1).symm, (Option.some.inj e2).symm, List.getElem?_zip_eq_some.mpr ⟨h1, h2⟩, ?_⟩
        have hb : b ∈ Txt.split (cutS z (some ((ind n).length : Int)) none) " " := by rw [ept]; exact List.mem_cons_of_mem _ (List.mem_of_getElem? h2)
        have h3 := mem_szL hb
        have h4 := PyProof.Rows.split_weight (cutS z (some ((ind n).length : Int)) none) " " (by decide +kernel)
        have h5 := cutS_length z (some ((ind n).length : Int)) none
        have h6 : szL (Txt.split (cutS z (some ((ind n).length : Int)) none) " ") ≤ z.length + 1 := Nat.le_trans h4 (by omega)
        omega
  refine ⟨pl, p3, true, true, _, _, rfl, sq_of (kd := true) hpl3, sq_of (kd := true) hp3, fun pb npb => ?_⟩
  refine lc_it (walk_zipQ (n := (plainF fs).length) (by rw [List.length_map, List.length_map, hd.len]; omega)) (fun j H' => Same G3 H' ∧ H' pb = some (.lst ((List.replicate j true).map V.bl)))
    ⟨Same.new npb, upd_same⟩ (fun j H' _ ⟨s4, _⟩ => ⟨sq_of (kd := true) (s4 _ _ hpl3), sq_of (kd := true) (s4 _ _ hp3)⟩) ?_ ?_
  · rintro j y H3 H4 hj ⟨s4, hpb⟩ ⟨T, x1, x2, rfl, nT, rfl, e1, e2⟩
    obtain ⟨a, b, rfl, rfl, hab, lb⟩ := pairs e1 e2
    have wr := hd.wr _ (List.mem_of_getElem? hab)
    refine ⟨T, _, rfl, SqT.of upd_same, rfl, _, _, rfl, _, _, rfl, rfl, rfl, ?_⟩
    refine ⟨_, rfl, _, rfl, a, b, rfl, lb, fun H5 s5 => ?_⟩
    have s6 : Same G3 H5 := Same.trans s4 (Same.trans (Same.new nT) s5)
    rw [wr.1]
    refine ⟨_, s5 _ _ (Same.new nT _ _ hpb), ?_, Same.upN s6 npb, ?_⟩
    · exact small (by rw [List.length_map, List.length_replicate]; omega)
    · rw [upd_same, List.replicate_succ', List.map_append]
      rfl
  rintro G4 ⟨s4, hpb⟩
  refine ⟨pb, _, rfl, SqL.of hpb, _, rfl, ?_⟩
  rw [all_true]
  refine iteF ?_
  have hp4 := s4 _ _ (s3 _ _ hp2)
  have hpl4 := s4 _ _ hpl3
  refine ⟨_, rfl, p, _, 0, _, rfl, rfl, SqL.of hp4, at0, (by show 1 ≤ sizeLine; decide), fun t1 nt1 => ?_⟩
  have s5 : Same G4 (upd G4 t1 (.lst [.str w0])) := Same.new nt1
  have ht1 : (upd G4 t1 (.lst [.str w0])) t1 = some (.lst [.str w0]) := upd_same
  generalize hG5 : upd G4 t1 _ = G5 at *
  have hp5 := s5 _ _ hp4
  refine ⟨_, rfl, _, rfl, 1, rfl, p, _, rfl, SqL.of hp5, fun p6 np6 => ?_⟩
  rw [cutp]
  have s6 : Same G5 (upd G5 p6 (.lst (ps.map V.str))) := Same.new np6
  have hp6 : (upd G5 p6 (.lst (ps.map V.str))) p6 = some (.lst (ps.map V.str)) := upd_same
  generalize hG6 : upd G5 p6 _ = G6 at *
  have hpl6 := s6 _ _ (s5 _ _ hpl4)
  refine ⟨pl, p6, true, true, _, _, rfl, sq_of (kd := true) hpl6, sq_of (kd := true) hp6, fun pv npv => ?_⟩
  refine lc_it (walk_zipQ (n := (plainF fs).length) (by rw [List.length_map, List.length_map, hd.len]; omega)) (fun j H' => Same G6 H' ∧ H' pv = some (.lst ((((plainF fs).zip ps).take j).map fun q => valF q.1 q.2)))
    ⟨Same.new npv, upd_same⟩ (fun j H' _ ⟨s7, _⟩ => ⟨sq_of (kd := true) (s7 _ _ hpl6), sq_of (kd := true) (s7 _ _ hp6)⟩) ?_ ?_
  · rintro j y H3 H4 hj ⟨s7, hpv⟩ ⟨T, x1, x2, rfl, nT, rfl, e1, e2⟩
    obtain ⟨a, b, rfl, rfl, hab, lb⟩ := pairs e1 e2
    have wr := hd.wr _ (List.mem_of_getElem? hab)
    have s8 : Same G6 (upd H3 T (.tup [.str a, .str b])) := Same.trans s7 (Same.new nT)
    have hpv2 := Same.new (o := .tup [.str a, .str b]) nT _ _ hpv
    have hsm : ((((plainF fs).zip ps).take j).map fun q => valF q.1 q.2).length < sizeLine := small (by
      rw [List.length_map, List.length_take]
      omega)
    have hup : (upd (upd H3 T (.tup [.str a, .str b])) pv (.lst (((((plainF fs).zip ps).take j).map fun q => valF q.1 q.2) ++ [valF a b]))) pv = some (.lst ((((plainF fs).zip ps).take (j + 1)).map fun q => valF q.1 q.2)) := by
      rw [upd_same, List.take_add_one, hab, List.map_append]
      rfl
    refine ⟨T, _, rfl, SqT.of upd_same, rfl, _, _, rfl, _, _, rfl, rfl, rfl, ?_⟩
    refine ⟨_, rfl, rfl, _, rfl, ?_⟩
    by_cases ha : a = "word"
    · rw [decide_eq_true (by rw [ha])]
      refine iteT ⟨_, rfl, _, hpv2, hsm, Same.upN s8 npv, ?_⟩
      have ev : valF a b = .str b := by unfold valF; rw [if_pos ha]
      rw [ev] at hup
      exact hup
    · rw [decide_eq_false (fun z => ha (V.str.inj z))]
      refine iteF ⟨_, rfl, b, rfl, wr.2 ha, lb, _, hpv2, hsm, Same.upN s8 npv, ?_⟩
      have ev : valF a b = .int (numOf b) := by unfold valF; rw [if_neg ha]
      rw [ev] at hup
      exact hup
  rintro G7 ⟨s7, hpv⟩
  have zl : ((plainF fs).zip ps).length = (plainF fs).length := by rw [List.length_zip, hd.len]; omega
  rw [← zl, List.take_length] at hpv
  have hpv : G7 pv = some (.lst (valsF fs ps)) := hpv
  have lv : (valsF fs ps).length ≤ 3 := by unfold valsF; rw [List.length_map, zl]; exact lpl
  have ht7 := s7 _ _ (s6 _ _ ht1)
  refine ⟨t1, pv, _, _, rfl, rfl, ht7, hpv, smallE (by simp; omega), fun rr nrr => ?_⟩
  have sH7 : Same H G7 := Same.trans s1 (Same.trans s2 (Same.trans s3 (Same.trans s4 (Same.trans s5 (Same.trans s6 s7)))))
  have s8 : Same G7 (upd G7 rr (.lst ([.str w0] ++ valsF fs ps))) := Same.new nrr
  have hrr : (upd G7 rr (.lst ([.str w0] ++ valsF fs ps))) rr = some (.lst (.str w0 :: valsF fs ps)) := upd_same
  generalize hG8 : upd G7 rr _ = G8 at *
  have nrrH : H rr = none := Same.free sH7 nrr
  have sH8 : Same H G8 := Same.trans sH7 s8
  have hp8 := s8 _ _ (s7 _ _ (s6 _ _ hp5))
  have hpl8 := s8 _ _ (s7 _ _ hpl6)
  refine ⟨_, rfl, _, _, rfl, rfl, ?_⟩
  have enb : ((fs.map V.str).length : Int) - ((plainF fs).map V.str).length = (nbF fs : Nat) := by
    rw [List.length_map, List.length_map]
    unfold nbF
    have : (plainF fs).length ≤ fs.length := List.length_filter_le _ _
    omega
  refine ⟨_, rfl, p, _, 0, _, rfl, rfl, SqL.of hp8, at0, dF, w0, .ref tA, rfl, rfl, ⟨es, nn, .ref tA, D.at_, D.lit, hn2, rfl⟩, tA, _, rfl, .inr (htA G8), _, rfl, pl, _, rfl, .inl (SqL.of hpl8), _, _, rfl, rfl, (nbF fs : Nat), congrArg (fun x => [V.int x]) enb, by omega, (by have : nbF fs ≤ 3 := Nat.le_trans (Nat.sub_le _ _) fl3; omega), ?_⟩
  have nb3 : nbF fs ≤ 3 := Nat.le_trans (Nat.sub_le _ _) fl3
  refine for_it (walk_range (lo := 0) (n := ((nbF fs : Nat) : Int).toNat)) (fun j σ H' => Same H H' ∧ ∃ (cur m : Nat) (zs : List V) (v8 v9 : Option V), σ = [some (.ref l), some (.int (cur : Nat)), some (.str (ind n)), some (.ref p), some (.ref pl), none, none, some (.ref rr), v8, v9] ∧
      m + j = nbF fs ∧ cur ≤ L.length ∧ BlksE (RdRows L d (n + 1)) (RowsE L d (n + 1)) L n j m cur e ∧ H' rr = some (.lst (.str w0 :: valsF fs ps ++ zs)) ∧ zs.length = j)
    ⟨sH8, i + 1, nbF fs, [], none, none, by rfl, by omega, by omega, hb, by rw [hrr, List.append_nil], rfl⟩ (fun _ _ _ _ _ => trivial) ?_ ?_
  · rintro j x σ H1 H2 hj ⟨sm, cur, m, zs, v8, v9, rfl, hm, hcL, hrd, hr1, hdl⟩ ⟨rfl, rfl⟩
    have hj' : j < nbF fs := by simpa using hj
    obtain ⟨m, rfl⟩ : ∃ m', m = m' + 1 := ⟨m - 1, by omega⟩
    have hl2 := sm _ _ hl
    cases hrd with
    | els hj1 hne =>
      refine ⟨fun _ _ => False, ?_, fun _ _ h => h.elim⟩
      refine ⟨_, rfl, rfl, _, rfl, ?_⟩
      rw [decide_eq_true (by rw [hj1]; rfl)]
      refine iteT ⟨_, rfl, _, rfl, l, _, rfl, .inl (SqL.of hl2), rfl, _, rfl, ?_⟩
      by_cases hc : cur = L.length
      · rw [decide_eq_true (by rw [List.length_map, hc])]
        exact iteT (iteT ⟨_, rfl, _, _, rfl, rfl, mkE fun d nd => q _ d sm nd⟩)
      · have hc2 : cur < L.length := by omega
        have g : L[cur]? = some L[cur] := List.getElem?_eq_getElem hc2
        generalize L[cur] = zc at g
        have ixc : atI (L.map V.str) (cur : Int) = some (.str zc) := atI_nat (by rw [List.getElem?_map, g]; rfl)
        rw [decide_eq_false (show ¬ V.int (cur : Int) = V.int ((L.map V.str).length : Nat) from fun z => by
          have := V.int.inj z
          rw [List.length_map] at this
          omega)]
        have l4 : ("else" : Str).length = 4 := by decide +kernel
        refine iteF ⟨_, rfl, _, rfl, l, _, _, _, rfl, rfl, SqL.of hl2, ixc, _, rfl, _, _, rfl, rfl, by omega, rfl, _, rfl, ?_⟩
        rw [decide_eq_false (fun z => hne (by rw [g, V.str.inj z]))]
        exact iteT ⟨_, rfl, _, _, rfl, rfl, mkE fun d nd => q _ d sm nd⟩
    | @here _ _ _ at1 _ c1 c2 hR =>
      refine ⟨fun σ H' => σ = [some (.ref l), some (.int (at1 : Nat)), some (.str (ind n)), some (.ref p), some (.ref pl), none, none, some (.ref rr), some (.int (0 + (j : Int))), v9] ∧ H' = H2, ?_, ?_⟩
      · refine ⟨_, rfl, rfl, _, rfl, ?_⟩
        by_cases hj1 : j = 1
        · obtain ⟨g, rfl⟩ := c1 hj1
          have hc : cur < L.length := (List.getElem?_eq_some_iff.mp g).1
          have ixc : atI (L.map V.str) (cur : Int) = some (.str (ind n ++ ("else" : Str))) := atI_nat (by rw [List.getElem?_map, g]; rfl)
          rw [decide_eq_true (by rw [hj1]; rfl)]
          refine iteT ⟨_, rfl, _, rfl, l, _, rfl, .inl (SqL.of hl2), rfl, _, rfl, ?_⟩
          rw [decide_eq_false (show ¬ V.int (cur : Int) = V.int ((L.map V.str).length : Nat) from fun z => by
            have := V.int.inj z
            rw [List.length_map] at this
            omega)]
          have l4 : ("else" : Str).length = 4 := by decide +kernel
          refine iteF ⟨_, rfl, _, rfl, l, _, _, _, rfl, rfl, SqL.of hl2, ixc, _, rfl, _, _, rfl, rfl, by omega, rfl, _, rfl, ?_⟩
          rw [decide_eq_true rfl]
          exact iteF ⟨_, rfl, _, _, rfl, rfl, rfl, rfl⟩
        · obtain rfl := c2 hj1
          rw [decide_eq_false (fun z => hj1 (by have := V.int.inj z; omega))]
          exact iteF ⟨rfl, rfl⟩
      rintro σ H3 ⟨rfl, rfl⟩
      have hc1 : at1 ≤ L.length := by
        by_cases hj1 : j = 1
        · obtain ⟨g, rfl⟩ := c1 hj1
          exact (List.getElem?_eq_some_iff.mp g).1
        · rw [c2 hj1]; exact hcL
      cases d with
      | zero => exact hR.elim
      | succ e' =>
      obtain ⟨rfl, rfl⟩ := hF e' rfl
      have l2 : ("  " : Str).length = 2 := by decide +kernel
      refine ⟨_, rfl, _, rfl, _, rfl, _, _, rfl, rfl, by omega, ?_⟩
      rw [ind_succ]
      exact .inr ⟨l, L, at1, n + 1, e, rfl, hl2, lok, hc1, by omega, hR, fun H5 d s5 nd => q H5 d (Same.trans sm s5) nd⟩
    | @later _ _ _ at1 at2 _ b c1 c2 hR hTl =>
      refine ⟨fun σ H' => σ = [some (.ref l), some (.int (at1 : Nat)), some (.str (ind n)), some (.ref p), some (.ref pl), none, none, some (.ref rr), some (.int (0 + (j : Int))), v9] ∧ H' = H2, ?_, ?_⟩
      · refine ⟨_, rfl, rfl, _, rfl, ?_⟩
        by_cases hj1 : j = 1
        · obtain ⟨g, rfl⟩ := c1 hj1
          have hc : cur < L.length := (List.getElem?_eq_some_iff.mp g).1
          have ixc : atI (L.map V.str) (cur : Int) = some (.str (ind n ++ ("else" : Str))) := atI_nat (by rw [List.getElem?_map, g]; rfl)
          rw [decide_eq_true (by rw [hj1]; rfl)]
          refine iteT ⟨_, rfl, _, rfl, l, _, rfl, .inl (SqL.of hl2), rfl, _, rfl, ?_⟩
          rw [decide_eq_false (show ¬ V.int (cur : Int) = V.int ((L.map V.str).length : Nat) from fun z => by
            have := V.int.inj z
            rw [List.length_map] at this
            omega)]
          have l4 : ("else" : Str).length = 4 := by decide +kernel
          refine iteF ⟨_, rfl, _, rfl, l, _, _, _, rfl, rfl, SqL.of hl2, ixc, _, rfl, _, _, rfl, rfl, by omega, rfl, _, rfl, ?_⟩
          rw [decide_eq_true rfl]
          exact iteF ⟨_, rfl, _, _, rfl, rfl, rfl, rfl⟩
        · obtain rfl := c2 hj1
          rw [decide_eq_false (fun z => hj1 (by have := V.int.inj z; omega))]
          exact iteF ⟨rfl, rfl⟩
      rintro σ H3 ⟨rfl, rfl⟩
      have hc1 : at1 ≤ L.length := by
        by_cases hj1 : j = 1
        · obtain ⟨g, rfl⟩ := c1 hj1
          exact (List.getElem?_eq_some_iff.mp g).1
        · rw [c2 hj1]; exact hcL
      cases d with
      | zero => exact hR.elim
      | succ e' =>
      obtain ⟨rfl, rfl⟩ := hF e' rfl
      have l2 : ("  " : Str).length = 2 := by decide +kernel
      refine ⟨_, rfl, _, rfl, _, rfl, _, _, rfl, rfl, by omega, ?_⟩
      rw [ind_succ]
      refine .inl ⟨l, L, at1, n + 1, b, at2, rfl, hl2, lok, by omega, hR, fun H4 T v s4 nT hT hrows => ?_⟩
      refine ⟨T, _, rfl, SqT.of hT, rfl, _, _, rfl, _, _, rfl, rfl, ?_⟩
      have hr4 := s4 _ _ hr1
      refine ⟨_, rfl, .inl ⟨rfl, _, SqL.of hr4⟩, _, rfl, rr, _, _, rfl, rfl, hr4, small (by simp; omega), ?_⟩
      refine ⟨Same.upN (Same.trans sm s4) nrrH, at2, m, zs ++ [v], _, _, rfl, by omega, rdRows_len hR, hTl, ?_, by simp [hdl]⟩
      rw [upd_same, ← List.append_assoc]
  · rintro σ H1 ⟨sm, cur, m, zs, v8, v9, rfl, hm, hcL, hrd, hr1, hdl⟩
    have m0 : m = 0 := by simp at hm; omega
    subst m0
    cases hrd
end
end Ft
set_option Elab.async false
set_option linter.all false
set_option maxRecDepth 100000
set_option maxHeartbeats 1000000
namespace Ft
open PySem L2 TL
/-- a line that can stand nowhere -/
structure NoLine (y : Str) : Prop where
  head : ∀ n w fs ps, ¬ HeadRd n y w fs ps
  nothing : ∀ n, y ≠ ind n ++ ("nothing" : Str)
  els : ∀ n, y ≠ ind n ++ ("else" : Str)
  mod : ∀ w, y = ("module " : Str) ++ w → isW w = false
section
variable {ls : List Str} {y : Str}
theorem nl_get {i : Nat} (h : i < ls.length) : (ls ++ [y])[i]? = ls[i]? := List.getElem?_append_left h
theorem nl_last : (ls ++ [y])[ls.length]? = some y := by rw [List.getElem?_append_right (Nat.le_refl _), Nat.sub_self]; rfl
theorem nl_some {i : Nat} {z : Str} (h : ls[i]? = some z) : (ls ++ [y])[i]? = some z := by rw [nl_get (List.getElem?_eq_some_iff.mp h).1]; exact h
theorem nl_bad {n i : Nat} (hy : NoLine y) (hi : i ≤ ls.length) (h : HeadBad ls n i) : HeadBad (ls ++ [y]) n i := fun z hz w fs ps hd => by
  by_cases hc : i < ls.length
  · rw [nl_get hc] at hz
    exact h z hz w fs ps hd
  · have e : i = ls.length := by omega
    subst e
    rw [nl_last] at hz
    rw [← Option.some.inj hz] at hd
    exact hy.head n w fs ps hd
theorem nl_else {n i : Nat} (hy : NoLine y) (hi : i ≤ ls.length) (h : ls[i]? ≠ some (ind n ++ ("else" : Str))) : (ls ++ [y])[i]? ≠ some (ind n ++ ("else" : Str)) := fun hz => by
  by_cases hc : i < ls.length
  · rw [nl_get hc] at hz
    exact h hz
  · have e : i = ls.length := by omega
    subst e
    rw [nl_last] at hz
    exact hy.els n (Option.some.inj hz)
theorem nl_nothing {n i : Nat} (hy : NoLine y) (hi : i ≤ ls.length) (h : ls[i]? ≠ some (ind n ++ ("nothing" : Str))) : (ls ++ [y])[i]? ≠ some (ind n ++ ("nothing" : Str)) := fun hz => by
  by_cases hc : i < ls.length
  · rw [nl_get hc] at hz
    exact h hz
  · have e : i = ls.length := by omega
    subst e
    rw [nl_last] at hz
    exact hy.nothing n (Option.some.inj hz)
theorem nl_blks {Rec Rec' : Nat → List Row → Nat → Prop} {RecE' : Nat → Nat → Prop} {n : Nat} (hR : ∀ a b c, a ≤ ls.length → Rec a b c → Rec' a b c ∨ (c = ls.length ∧ RecE' a (ls.length + 1))) (hlen : ∀ a b c, Rec a b c → a < c ∧ c ≤ ls.length) {j m a c : Nat} {bs : List (List Row)}
    (h : RdBlks Rec ls n j m a bs c) : a ≤ ls.length → RdBlks Rec' (ls ++ [y]) n j m a bs c ∨ (c = ls.length ∧ BlksE Rec' RecE' (ls ++ [y]) n j m a (ls.length + 1)) := by
  induction h with
  | nil => exact fun _ => .inl .nil
  | @cons j m a a1 a2 a3 b bs c1 c2 h1 h2 ih =>
    intro ha
    have ha1 : a1 ≤ ls.length := by have := hlen _ _ _ h1; omega
    have k1 : j = 1 → (ls ++ [y])[a]? = some (ind n ++ ("else" : Str)) ∧ a1 = a + 1 := fun hj => ⟨nl_some (c1 hj).1, (c1 hj).2⟩
    rcases hR _ _ _ ha1 h1 with r | ⟨e, r⟩
    · rcases ih (hlen _ _ _ h1).2 with q | ⟨e, q⟩
      · exact .inl (.cons k1 c2 r q)
      · exact .inr ⟨e, .later k1 c2 r q⟩
    · refine .inr ⟨?_, .here k1 c2 r⟩
      cases h2 with
      | nil => exact e
      | cons c3 c4 h3 h4 =>
        exfalso
        have q := hlen _ _ _ h3
        by_cases hj : j + 1 = 1
        · have := (c3 hj).2; omega
        · have := c4 hj; omega
theorem nl_row {Rec Rec' : Nat → List Row → Nat → Prop} {RecE' : Nat → Nat → Prop} {n a c : Nat} {r : Row} (hR : ∀ a b c, a ≤ ls.length → Rec a b c → Rec' a b c ∨ (c = ls.length ∧ RecE' a (ls.length + 1))) (hlen : ∀ a b c, Rec a b c → a < c ∧ c ≤ ls.length)
    (h : RdRow Rec ls n a r c) : RdRow Rec' (ls ++ [y]) n a r c ∨ (c = ls.length ∧ RowE Rec' RecE' (ls ++ [y]) n a (ls.length + 1)) := by
  obtain ⟨z, w, fs, ps, bs, hz, hd, hb, e⟩ := h
  rcases nl_blks (y := y) hR hlen hb (List.getElem?_eq_some_iff.mp hz).1 with q | ⟨e2, q⟩
  · exact .inl ⟨z, w, fs, ps, bs, nl_some hz, hd, q, e⟩
  · exact .inr ⟨e2, .inr ⟨z, w, fs, ps, nl_some hz, hd, q⟩⟩
theorem nl_stands {n i : Nat} (h : i < ls.length) : Stands (ls ++ [y]) n i ↔ Stands ls n i := by
  unfold Stands
  rw [nl_get h]
theorem nl_more {R R' : Nat → Row → Nat → Prop} {RE' : Nat → Nat → Prop} {n : Nat} (hR : ∀ a r c, a ≤ ls.length → R a r c → R' a r c ∨ (c = ls.length ∧ RE' a (ls.length + 1))) (hlen : ∀ a r c, R a r c → a < c ∧ c ≤ ls.length) (hl : RE' ls.length (ls.length + 1)) {a c : Nat} {rs : List Row}
    (h : RdMore R ls n a rs c) : a ≤ ls.length → RdMore R' (ls ++ [y]) n a rs c ∨ (c = ls.length ∧ MoreE R' RE' (ls ++ [y]) n a (ls.length + 1)) := by
  induction h with
  | @stop a hs =>
    intro ha
    by_cases hc : a < ls.length
    · exact .inl (.stop fun k => hs ((nl_stands hc).mp k))
    · have e : a = ls.length := by omega
      subst e
      by_cases hst : Stands (ls ++ [y]) n ls.length
      · exact .inr ⟨rfl, .here hst hl⟩
      · exact .inl (.stop hst)
  | @step a a1 a2 r rs hst h1 h2 ih =>
    intro ha
    have q := hlen _ _ _ h1
    have hst' : Stands (ls ++ [y]) n a := (nl_stands (by omega)).mpr hst
    rcases hR _ _ _ ha h1 with k | ⟨e, k⟩
    · rcases ih q.2 with k2 | ⟨e, k2⟩
      · exact .inl (.step hst' k k2)
      · exact .inr ⟨e, .later hst' k k2⟩
    · refine .inr ⟨?_, .here hst' k⟩
      cases h2 with
      | stop => exact e
      | step hs h3 h4 => exfalso; have := hlen _ _ _ h3; omega
/-- right reading of the lines ahead -/
theorem nl_rows (hy : NoLine y) : ∀ {d n a c : Nat} {rs : List Row}, RdRows ls d n a rs c → RdRows (ls ++ [y]) d n a rs c ∨ (c = ls.length ∧ RowsE (ls ++ [y]) d n a (ls.length + 1))
  | 0, _, _, _, _, h => h.elim
  | d + 1, n, a, c, rs, h => by
    have hR : ∀ a b c, a ≤ ls.length → RdRows ls d (n + 1) a b c → RdRows (ls ++ [y]) d (n + 1) a b c ∨ (c = ls.length ∧ RowsE (ls ++ [y]) d (n + 1) a (ls.length + 1)) := fun a b c _ h => nl_rows hy h
    have hlen : ∀ a b c, RdRows ls d (n + 1) a b c → a < c ∧ c ≤ ls.length := fun a b c h => ⟨rdRows_lt h, rdRows_len h⟩
    rcases h with ⟨h, e1, e2⟩ | ⟨hno, r, rest, a1, e, h1, h2⟩
    · exact .inl (.inl ⟨nl_some h, e1, e2⟩)
    · have hlen2 : ∀ a r c, RdRow (RdRows ls d (n + 1)) ls n a r c → a < c ∧ c ≤ ls.length := fun a r c h => ⟨rdRow_lt (fun _ _ _ h => rdRows_lt h) h, rdRow_len (fun _ _ _ h => rdRows_len h) h⟩
      have ha := hlen2 _ _ _ h1
      have hno2 := nl_nothing (y := y) (n := n) hy (i := a) (by omega) hno
      have hl : RowE (RdRows (ls ++ [y]) d (n + 1)) (RowsE (ls ++ [y]) d (n + 1)) (ls ++ [y]) n ls.length (ls.length + 1) := .inl ⟨nl_bad hy (Nat.le_refl _) (fun z hz => by rw [List.getElem?_eq_none (Nat.le_refl _)] at hz; cases hz), rfl⟩
      rcases nl_row (y := y) hR hlen h1 with k | ⟨e2, k⟩
      · rcases nl_more (y := y) (R' := RdRow (RdRows (ls ++ [y]) d (n + 1)) (ls ++ [y]) n) (RE' := RowE (RdRows (ls ++ [y]) d (n + 1)) (RowsE (ls ++ [y]) d (n + 1)) (ls ++ [y]) n) (fun a r c _ h => nl_row (y := y) hR hlen h) hlen2 hl h2 ha.2 with k2 | ⟨e2, k2⟩
        · exact .inl (.inr ⟨hno2, r, rest, a1, e, k, k2⟩)
        · exact .inr ⟨e2, hno2, .inr ⟨r, a1, k, k2⟩⟩
      · refine .inr ⟨?_, hno2, .inl k⟩
        cases h2 with
        | stop => exact e2
        | step hs h3 h4 => exfalso; have := hlen2 _ _ _ h3; omega
theorem rowE_end {Rec : Nat → List Row → Nat → Prop} {RecE : Nat → Nat → Prop} {n e : Nat} (h : RowE Rec RecE ls n ls.length e) : e = ls.length + 1 := by
  rcases h with ⟨_, h⟩ | ⟨z, w, fs, ps, hz, _⟩
  · exact h
  · rw [List.getElem?_eq_none (Nat.le_refl _)] at hz; cases hz
theorem rowsE_end {d n e : Nat} (h : RowsE ls d n ls.length e) : e = ls.length + 1 := by
  cases d with
  | zero => exact h.elim
  | succ d =>
    obtain ⟨_, h | ⟨r, a1, ⟨z, w, fs, ps, bs, hz, _⟩, _⟩⟩ := h
    · exact rowE_end h
    · rw [List.getElem?_eq_none (Nat.le_refl _)] at hz; cases hz
theorem blksE_end {d n j m e a : Nat} {nn : Nat} (h : BlksE (RdRows ls d nn) (RowsE ls d nn) ls n j m a e) : a = ls.length → e = ls.length + 1 := by
  intro ha
  subst ha
  cases h with
  | els _ _ => rfl
  | here c1 c2 hE =>
    by_cases hj : j = 1
    · have := (c1 hj).1
      rw [List.getElem?_eq_none (Nat.le_refl _)] at this; cases this
    · rw [c2 hj] at hE
      exact rowsE_end hE
  | later c1 c2 hR _ =>
    exfalso
    by_cases hj : j = 1
    · have := (c1 hj).1
      rw [List.getElem?_eq_none (Nat.le_refl _)] at this; cases this
    · rw [c2 hj] at hR
      have h1 := rdRows_lt hR
      have h2 := rdRows_len hR
      omega
theorem nl_blksE (hy : NoLine y) {d n nn : Nat} (hE : ∀ a e, a ≤ ls.length → RowsE ls d nn a e → RowsE (ls ++ [y]) d nn a e) {j m a e : Nat} (h : BlksE (RdRows ls d nn) (RowsE ls d nn) ls n j m a e) : a ≤ ls.length → BlksE (RdRows (ls ++ [y]) d nn) (RowsE (ls ++ [y]) d nn) (ls ++ [y]) n j m a e := by
  induction h with
  | @els j m a hj hne => exact fun ha => .els hj (nl_else hy ha hne)
  | @here j m a a1 e c1 c2 h1 =>
    intro ha
    have k1 : j = 1 → (ls ++ [y])[a]? = some (ind n ++ ("else" : Str)) ∧ a1 = a + 1 := fun hj => ⟨nl_some (c1 hj).1, (c1 hj).2⟩
    have ha1 : a1 ≤ ls.length := by
      by_cases hj : j = 1
      · have := (List.getElem?_eq_some_iff.mp (c1 hj).1).1
        have := (c1 hj).2
        omega
      · rw [c2 hj]; exact ha
    exact .here k1 c2 (hE _ _ ha1 h1)
  | @later j m a a1 a2 e b c1 c2 h1 h2 ih =>
    intro ha
    have k1 : j = 1 → (ls ++ [y])[a]? = some (ind n ++ ("else" : Str)) ∧ a1 = a + 1 := fun hj => ⟨nl_some (c1 hj).1, (c1 hj).2⟩
    rcases nl_rows (y := y) hy h1 with r | ⟨e2, r⟩
    · exact .later k1 c2 r (ih (rdRows_len h1))
    · rw [blksE_end h2 e2]
      exact .here k1 c2 r
theorem nl_rowE (hy : NoLine y) {d n nn : Nat} (hE : ∀ a e, a ≤ ls.length → RowsE ls d nn a e → RowsE (ls ++ [y]) d nn a e) {a e : Nat} (ha : a ≤ ls.length) (h : RowE (RdRows ls d nn) (RowsE ls d nn) ls n a e) : RowE (RdRows (ls ++ [y]) d nn) (RowsE (ls ++ [y]) d nn) (ls ++ [y]) n a e := by
  rcases h with ⟨h, e1⟩ | ⟨z, w, fs, ps, hz, hd, hb⟩
  · exact .inl ⟨nl_bad hy ha h, e1⟩
  · exact .inr ⟨z, w, fs, ps, nl_some hz, hd, nl_blksE hy hE hb (List.getElem?_eq_some_iff.mp hz).1⟩
theorem nl_rowsE (hy : NoLine y) : ∀ {d n a e : Nat}, a ≤ ls.length → RowsE ls d n a e → RowsE (ls ++ [y]) d n a e
  | 0, _, _, _, _, h => h.elim
  | d + 1, n, a, e, ha, h => by
    have hE : ∀ a e, a ≤ ls.length → RowsE ls d (n + 1) a e → RowsE (ls ++ [y]) d (n + 1) a e := fun a e ha h => nl_rowsE hy ha h
    have hR : ∀ a b c, a ≤ ls.length → RdRows ls d (n + 1) a b c → RdRows (ls ++ [y]) d (n + 1) a b c ∨ (c = ls.length ∧ RowsE (ls ++ [y]) d (n + 1) a (ls.length + 1)) := fun a b c _ h => nl_rows hy h
    have hlen : ∀ a b c, RdRows ls d (n + 1) a b c → a < c ∧ c ≤ ls.length := fun a b c h => ⟨rdRows_lt h, rdRows_len h⟩
    have hlen2 : ∀ {a r c}, RdRow (RdRows ls d (n + 1)) ls n a r c → a < c ∧ c ≤ ls.length := fun h => ⟨rdRow_lt (fun _ _ _ h => rdRows_lt h) h, rdRow_len (fun _ _ _ h => rdRows_len h) h⟩
    have more : ∀ {a e}, MoreE (RdRow (RdRows ls d (n + 1)) ls n) (RowE (RdRows ls d (n + 1)) (RowsE ls d (n + 1)) ls n) ls n a e → MoreE (RdRow (RdRows (ls ++ [y]) d (n + 1)) (ls ++ [y]) n) (RowE (RdRows (ls ++ [y]) d (n + 1)) (RowsE (ls ++ [y]) d (n + 1)) (ls ++ [y]) n) (ls ++ [y]) n a e := fun {a e} h => by
      induction h with
      | @here a e hst h1 =>
        have hlt : a < ls.length := by obtain ⟨z, hz, _⟩ := hst; exact (List.getElem?_eq_some_iff.mp hz).1
        exact .here ((nl_stands hlt).mpr hst) (nl_rowE hy hE (by omega) h1)
      | @later a a1 e r hst h1 h2 ih =>
        have hlt : a < ls.length := by obtain ⟨z, hz, _⟩ := hst; exact (List.getElem?_eq_some_iff.mp hz).1
        rcases nl_row (y := y) hR hlen h1 with k | ⟨e2, k⟩
        · exact .later ((nl_stands hlt).mpr hst) k ih
        · exfalso
          have : a1 < ls.length := by
            cases h2 with
            | here hs _ => obtain ⟨z, hz, _⟩ := hs; exact (List.getElem?_eq_some_iff.mp hz).1
            | later hs _ _ => obtain ⟨z, hz, _⟩ := hs; exact (List.getElem?_eq_some_iff.mp hz).1
          omega
    obtain ⟨hno, h | ⟨r, a1, h1, h2⟩⟩ := h
    · exact ⟨nl_nothing hy ha hno, .inl (nl_rowE hy hE ha h)⟩
    · rcases nl_row (y := y) hR hlen h1 with k | ⟨e2, k⟩
      · exact ⟨nl_nothing hy ha hno, .inr ⟨r, a1, k, more h2⟩⟩
      · exfalso
        have : a1 < ls.length := by
          cases h2 with
          | here hs _ => obtain ⟨z, hz, _⟩ := hs; exact (List.getElem?_eq_some_iff.mp hz).1
          | later hs _ _ => obtain ⟨z, hz, _⟩ := hs; exact (List.getElem?_eq_some_iff.mp hz).1
        omega
theorem nl_modbad (hy : NoLine y) {a : Nat} {last : Str} (ha : a ≤ ls.length) (h : ∀ w, ls[a]? = some (("module " : Str) ++ w) → isW w = true → ¬ last.cps.toList < w.cps.toList) {d : Nat} : ModsE (ls ++ [y]) d a last (a + 1) :=
  .bad (.inl (by rw [List.length_append]; show a < ls.length + 1; omega)) fun w hz hw => by
    by_cases hc : a < ls.length
    · rw [nl_get hc] at hz
      exact h w hz hw
    · have e : a = ls.length := by omega
      subst e
      rw [nl_last] at hz
      rw [hy.mod w (Option.some.inj hz)] at hw
      cases hw
theorem nl_mods (hy : NoLine y) {d a : Nat} {last : Str} {lib : Lib} (h : RdMods ls d a last lib) : a ≤ ls.length → ModsE (ls ++ [y]) d a last (ls.length + 1) := by
  induction h with
  | @done a last e1 e2 =>
    intro ha
    subst e1
    exact nl_modbad hy ha fun w hz => by rw [List.getElem?_eq_none (Nat.le_refl _)] at hz; cases hz
  | @step a a1 last w rs lib hz hw hlt hR hM ih =>
    intro ha
    rcases nl_rows (y := y) hy hR with r | ⟨e, r⟩
    · exact .later (nl_some hz) hw hlt r (ih (rdRows_len hR))
    · exact .here (nl_some hz) hw hlt r
theorem nl_modsE (hy : NoLine y) {d a e : Nat} {last : Str} (h : ModsE ls d a last e) : a ≤ ls.length → ModsE (ls ++ [y]) d a last e := by
  induction h with
  | @bad a last _ h => exact fun ha => nl_modbad hy ha h
  | @here a e last w hz hw hlt hE => exact fun ha => .here (nl_some hz) hw hlt (nl_rowsE hy (List.getElem?_eq_some_iff.mp hz).1 hE)
  | @later a a1 e last w rs hz hw hlt hR hM ih =>
    intro ha
    rcases nl_rows (y := y) hy hR with r | ⟨e2, r⟩
    · exact .later (nl_some hz) hw hlt r (ih (rdRows_len hR))
    · have ee : e = ls.length + 1 := by
        subst e2
        cases hM with
        | bad _ _ => rfl
        | here hz2 _ _ _ => rw [List.getElem?_eq_none (Nat.le_refl _)] at hz2; cases hz2
        | later hz2 _ _ _ _ => rw [List.getElem?_eq_none (Nat.le_refl _)] at hz2; cases hz2
      rw [ee]
      exact .here (nl_some hz) hw hlt r
end
end Ft
set_option Elab.async false
set_option linter.all false
set_option maxRecDepth 100000
set_option maxHeartbeats 1000000
namespace Ft
open PySem L2 TL
def Cl (z : Str) : Prop := ∀ c ∈ tl z, 32 ≤ c
theorem Cl.app {a b : Str} (ha : Cl a) (hb : Cl b) : Cl (a ++ b) := fun c hc => by
  rw [tl_append] at hc
  exact (List.mem_append.mp hc).elim (ha c) (hb c)
theorem Cl.of {z : Str} (h : (tl z).all (fun c => decide (33 ≤ c)) = true) : Cl z := fun c hc => by
  have := of_decide_eq_true (List.all_eq_true.mp h c hc)
  omega
theorem tl_nl : tl ("\n" : Str) = [10] := by decide +kernel
theorem join_nl : ∀ ls : List Str, joinL [] ((ls.map fun z => z ++ ("\n" : Str)).map tl) = joinL [10] ((ls ++ [Str.empty]).map tl)
  | [] => rfl
  | [a] => by
    show tl (a ++ ("\n" : Str)) = tl a ++ ([10] ++ tl Str.empty)
    rw [tl_append, tl_nl]
    rfl
  | a :: b :: r => by
    show tl (a ++ ("\n" : Str)) ++ ([] ++ joinL [] (((b :: r).map fun z => z ++ ("\n" : Str)).map tl)) = tl a ++ ([10] ++ joinL [10] ((b :: r ++ [Str.empty]).map tl))
    rw [join_nl (b :: r), tl_append, tl_nl, List.nil_append, List.append_assoc]
end Ft
set_option Elab.async false
set_option linter.all false
set_option maxRecDepth 100000
set_option maxHeartbeats 1000000
namespace Ft
open PySem L2 TL
theorem mods_tot {L : List Str} {M d : Nat} (hM : ∀ z ∈ L, Txt.startswith z (ind M) = false) (hd : M ≤ d) (h1 : 1 ≤ d) : ∀ m a last, L.length - a ≤ m → a ≤ L.length → (∃ lib, RdMods L d a last lib) ∨ ∃ e, ModsE L d a last e := by
  intro m
  induction m with
  | zero =>
    intro a last hm ha
    have e : a = L.length := by omega
    by_cases hl : last = Str.empty
    · exact .inr ⟨_, .bad (.inr hl) fun w hz => by rw [e, List.getElem?_eq_none (Nat.le_refl _)] at hz; cases hz⟩
    · exact .inl ⟨[], .done e hl⟩
  | succ m ih =>
    intro a last hm ha
    by_cases e : a = L.length
    · by_cases hl : last = Str.empty
      · exact .inr ⟨_, .bad (.inr hl) fun w hz => by rw [e, List.getElem?_eq_none (Nat.le_refl _)] at hz; cases hz⟩
      · exact .inl ⟨[], .done e hl⟩
    · by_cases hw : ∃ w, L[a]? = some (("module " : Str) ++ w) ∧ isW w = true ∧ last.cps.toList < w.cps.toList
      · obtain ⟨w, hz, ww, hlt⟩ := hw
        rcases rows_tot2 hM d 1 (a + 1) (by omega) h1 with ⟨rs, c, hR⟩ | ⟨e2, hE⟩
        · have q1 := rdRows_lt hR
          have q2 := rdRows_len hR
          rcases ih c w (by omega) q2 with ⟨lib, k⟩ | ⟨e2, k⟩
          · exact .inl ⟨(w, rs) :: lib, .step hz ww hlt hR k⟩
          · exact .inr ⟨e2, .later hz ww hlt hR k⟩
        · exact .inr ⟨e2, .here hz ww hlt hE⟩
      · exact .inr ⟨_, .bad (.inl (by omega)) fun w hz ww hlt => hw ⟨w, hz, ww, hlt⟩⟩
theorem spl_snoc (s : Nat) : ∀ (l acc : List Nat), s ∉ acc → ∃ ps, spl [s] 0 acc (l ++ [s]) = ps ++ [[]] ∧ ps ≠ []
  | [], acc, _ => by
    refine ⟨[acc], ?_, by simp⟩
    show spl [s] 0 acc [s] = _
    rw [spl_hit (by exact pre_self [s] [])]
    rfl
  | c :: r, acc, ha => by
    by_cases h : c = s
    · subst h
      obtain ⟨ps, e, _⟩ := spl_snoc c r [] (by simp)
      refine ⟨acc :: ps, ?_, by simp⟩
      show spl [c] 0 acc (c :: (r ++ [c])) = _
      rw [spl_hit (by exact pre_self [c] (r ++ [c]))]
      show acc :: spl [c] 0 [] (r ++ [c]) = _
      rw [e]
      rfl
    · obtain ⟨ps, e, hn⟩ := spl_snoc s r (acc ++ [c]) (by simp [ha]; exact fun z => h z.symm)
      refine ⟨ps, ?_, hn⟩
      show spl [s] 0 acc (c :: (r ++ [s])) = _
      rw [spl_miss (pre_of_head [] _ h), e]
theorem parts_blank {n : Nat} {z r : Str} (h : z = ind n ++ (r ++ (" " : Str))) : ∃ w ps, partsOf n z = w :: ps ∧ Str.empty ∈ ps := by
  have e1 : partsOf n z = Txt.split (r ++ (" " : Str)) " " := by
    unfold partsOf
    rw [h, cut_app]
  have h2 := split_spl (r ++ (" " : Str)) " " (by rw [tl_space]; simp) (kind_ok (by decide +kernel))
  rw [tl_append, tl_space] at h2
  obtain ⟨ps, e, hn⟩ := spl_snoc 32 (tl r) [] (by simp)
  rw [e] at h2
  cases hq : Txt.split (r ++ (" " : Str)) " " with
  | nil =>
    rw [hq] at h2
    have := congrArg List.length h2
    simp at this
  | cons w qs =>
    rw [hq] at h2
    refine ⟨w, qs, by rw [e1, hq], ?_⟩
    cases ps with
    | nil => exact absurd rfl hn
    | cons p0 ps =>
      rw [List.map_cons, List.cons_append] at h2
      have h3 := (List.cons.inj h2).2
      have h4 : ([] : List Nat) ∈ qs.map tl := by rw [h3]; simp
      obtain ⟨u, hu, eu⟩ := List.mem_map.mp h4
      rw [show u = Str.empty from ext_tl eu] at hu
      exact hu
theorem last_blank {z t : Str} {u : Str} {c : Nat} {r : List Nat} (h : z ++ (" " : Str) = u ++ t) (ht : (tl t).reverse = c :: r) (hc : c ≠ 32) : False := by
  have := congrArg (fun x => (tl x).reverse.head?) h
  simp only [tl_append, tl_space, List.reverse_append, ht] at this
  simp at this
  exact hc this.symm
theorem noLine_blank (z : Str) : NoLine (z ++ (" " : Str)) where
  head n w fs ps hd := by
    have st := hd.st
    rw [starts_pre] at st
    obtain ⟨q, hq⟩ := pre_iff.mp st
    by_cases hr : q = []
    · have ez : z ++ (" " : Str) = ind n ++ Str.empty := ext_tl (by rw [hq, tl_append, hr]; rfl)
      have pt := hd.pt
      unfold partsOf at pt
      rw [ez, cut_app] at pt
      have : Txt.split Str.empty " " = [Str.empty] := by decide +kernel
      rw [this] at pt
      have ew := (List.cons.inj pt).1
      have fd := hd.fd
      rw [← ew] at fd
      have : fieldsOf Str.empty = none := by decide +kernel
      rw [this] at fd
      cases fd
    · obtain ⟨q', c, rfl⟩ : ∃ q' c, q = q' ++ [c] := ⟨q.dropLast, q.getLast hr, (List.dropLast_concat_getLast hr).symm⟩
      rw [tl_append, tl_space, ← List.append_assoc] at hq
      have hc := List.append_inj' hq rfl
      have e2 : z ++ (" " : Str) = ind n ++ ((⟨q'.toArray⟩ : Str) ++ (" " : Str)) := ext_tl (by rw [tl_append, tl_append, tl_append, tl_mk, tl_space, ← List.append_assoc]; exact congrArg (· ++ [32]) hc.1)
      obtain ⟨w2, ps2, hp, hm⟩ := parts_blank e2
      rw [hd.pt] at hp
      have eps := (List.cons.inj hp).2
      rw [← eps] at hm
      obtain ⟨i, hi⟩ := List.getElem?_of_mem hm
      have hlt : i < (plainF fs).length := by rw [← hd.len]; exact (List.getElem?_eq_some_iff.mp hi).1
      have := (hd.wr ((plainF fs)[i], Str.empty) (List.mem_of_getElem? (i := i) (List.getElem?_zip_eq_some.mpr ⟨List.getElem?_eq_getElem hlt, hi⟩))).1
      unfold wrF at this
      split at this
      · exact absurd (show isW Str.empty = true from this) (by decide +kernel)
      · exact absurd (show wrN Str.empty = true from this) (by decide +kernel)
  nothing n h := last_blank h (c := 103) (r := [110, 105, 104, 116, 111, 110]) (by decide +kernel) (by decide)
  els n h := last_blank h (c := 101) (r := [115, 108, 101]) (by decide +kernel) (by decide)
  mod w h := by
    cases hw : isW w with
    | false => rfl
    | true =>
      exfalso
      obtain ⟨h1, h2, _⟩ := word_signs hw
      cases e : (tl w).reverse with
      | nil =>
        have : tl w = [] := List.reverse_eq_nil_iff.mp e
        rw [this] at h2
        cases h2
      | cons c r =>
        refine last_blank h e fun c32 => ?_
        have hm : c ∈ tl w := by rw [← List.mem_reverse, e]; simp
        rw [c32] at hm
        exact no32 h1 hm
end Ft
set_option Elab.async false
set_option linter.all false
set_option maxRecDepth 100000
set_option maxHeartbeats 1000000
namespace Ft
open PySem L2 TL
inductive LMore (R : Nat → Row → Nat → Prop) (L : List Str) (n : Nat) : Nat → List Row → Nat → Prop
  | stop {at_ : Nat} : HeadBad L n at_ → LMore R L n at_ [] at_
  | step {at_ at1 at2 : Nat} {r : Row} {rs : List Row} : R at_ r at1 → LMore R L n at1 rs at2 → LMore R L n at_ (r :: rs) at2
def LRows (L : List Str) : Nat → Nat → Nat → List Row → Nat → Prop
  | 0, _, _, _, _ => False
  | d + 1, n, at_, rs, at2 => (L[at_]? = some (ind n ++ ("nothing" : Str)) ∧ rs = [] ∧ at2 = at_ + 1) ∨
    (L[at_]? ≠ some (ind n ++ ("nothing" : Str)) ∧ ∃ r rest at1, rs = r :: rest ∧ RdRow (LRows L d (n + 1)) L n at_ r at1 ∧ LMore (RdRow (LRows L d (n + 1)) L n) L n at1 rest at2)
/-- the row's head stands, a block of it does not: said at e - 1 -/
def LRowB (Rec : Nat → List Row → Nat → Prop) (RecE : Nat → Nat → Prop) (L : List Str) (n at_ e : Nat) : Prop := ∃ z w fs ps, L[at_]? = some z ∧ HeadRd n z w fs ps ∧ BlksE Rec RecE L n 0 (nbF fs) (at_ + 1) e
inductive LMoreB (R : Nat → Row → Nat → Prop) (RE : Nat → Nat → Prop) : Nat → Nat → Prop
  | here {at_ e : Nat} : RE at_ e → LMoreB R RE at_ e
  | later {at_ at1 e : Nat} {r : Row} : R at_ r at1 → LMoreB R RE at1 e → LMoreB R RE at_ e
def LRowsB (L : List Str) : Nat → Nat → Nat → Nat → Prop
  | 0, _, _, _ => False
  | d + 1, n, at_, e => L[at_]? ≠ some (ind n ++ ("nothing" : Str)) ∧ ((HeadBad L n at_ ∧ e = at_ + 1) ∨ LMoreB (RdRow (LRows L d (n + 1)) L n) (LRowB (LRows L d (n + 1)) (LRowsB L d (n + 1)) L n) at_ e)
/-- a line so far in that can stand nowhere -/
def Stuck (L : List Str) (n i : Nat) : Prop := ∃ z, L[i]? = some z ∧ Txt.startswith z (ind n) = true ∧ HeadBad L n i
theorem split_blank (r : Str) : ∃ ps, Txt.split ((" " : Str) ++ r) " " = Str.empty :: ps := by
  have h2 := split_spl ((" " : Str) ++ r) " " (by rw [tl_space]; simp) (kind_ok (by decide +kernel))
  rw [tl_append, tl_space] at h2
  have e : spl [32] 0 [] ([32] ++ tl r) = [] :: spl [32] 0 [] (tl r) := by
    show spl [32] 0 [] (32 :: tl r) = _
    rw [spl_hit (by exact pre_self [32] (tl r))]
    rfl
  rw [e] at h2
  cases hq : Txt.split ((" " : Str) ++ r) " " with
  | nil =>
    rw [hq] at h2
    cases h2
  | cons w qs =>
    rw [hq, List.map_cons] at h2
    exact ⟨qs, by rw [show w = Str.empty from ext_tl (List.cons.inj h2).1]⟩
theorem noHead_blank {n : Nat} {z w : Str} {fs ps : List Str} (h : Txt.startswith z (ind n ++ (" " : Str)) = true) : ¬ HeadRd n z w fs ps := fun hd => by
  rw [starts_pre] at h
  obtain ⟨q, hq⟩ := pre_iff.mp h
  have ez : z = ind n ++ ((" " : Str) ++ ⟨q.toArray⟩) := ext_tl (by rw [hq, tl_append, tl_append, tl_append, tl_mk, List.append_assoc])
  have pt := hd.pt
  unfold partsOf at pt
  rw [ez, cut_app] at pt
  obtain ⟨qs, hqs⟩ := split_blank ⟨q.toArray⟩
  rw [hqs] at pt
  have ew := (List.cons.inj pt).1
  have fd := hd.fd
  rw [← ew] at fd
  have : fieldsOf Str.empty = none := by decide +kernel
  rw [this] at fd
  cases fd
theorem starts_step {n : Nat} {z : Str} (h : Txt.startswith z (ind (n + 1)) = true) : Txt.startswith z (ind n ++ (" " : Str)) = true := by
  rw [starts_pre] at h ⊢
  obtain ⟨q, hq⟩ := pre_iff.mp h
  refine pre_iff.mpr ⟨[32] ++ q, ?_⟩
  rw [hq, ← ind_succ, tl_append, tl_append, tl_space]
  have : tl ("  " : Str) = [32, 32] := by decide +kernel
  rw [this]
  simp
theorem starts_less {n : Nat} {z : Str} (h : Txt.startswith z (ind n ++ (" " : Str)) = true) : Txt.startswith z (ind n) = true := by
  rw [starts_pre] at h ⊢
  obtain ⟨q, hq⟩ := pre_iff.mp h
  exact pre_iff.mpr ⟨[32] ++ q, by rw [hq, tl_append, tl_space, List.append_assoc]⟩
section
variable {L : List Str}
theorem stop_bad {n i : Nat} (h : ¬ Stands L n i) : HeadBad L n i := fun z hz w fs ps hd => by
  cases hb : Txt.startswith z (ind n ++ (" " : Str)) with
  | true => exact noHead_blank hb hd
  | false => exact h ⟨z, hz, hd.st, hb⟩
theorem Stuck.down {n i : Nat} (h : Stuck L (n + 1) i) : Stuck L n i := by
  obtain ⟨z, hz, hs, _⟩ := h
  have h1 := starts_step hs
  refine ⟨z, hz, starts_less h1, fun z2 hz2 w fs ps hd => ?_⟩
  rw [hz] at hz2
  rw [← Option.some.inj hz2] at hd
  exact noHead_blank h1 hd
theorem Stuck.else_ {n i : Nat} (h : Stuck L (n + 1) i) : L[i]? ≠ some (ind n ++ ("else" : Str)) := fun e => by
  obtain ⟨z, hz, hs, _⟩ := h
  rw [hz] at e
  rw [Option.some.inj e] at hs
  have := not_starts (m := n) (n := n + 1) (t := "else") (c := 101) (r := [108, 115, 101]) (Nat.lt_succ_self n) (by decide +kernel) (by decide)
  rw [this] at hs
  cases hs
theorem Stuck.mod {n i : Nat} (h : Stuck L (n + 1) i) (w : Str) : L[i]? ≠ some (("module " : Str) ++ w) := fun e => by
  obtain ⟨z, hz, hs, _⟩ := h
  rw [hz] at e
  rw [Option.some.inj e] at hs
  have := not_starts0 (n := n + 1) (t := ("module " : Str) ++ w) (c := 109) (r := [111, 100, 117, 108, 101, 32] ++ tl w) (Nat.succ_pos n) (by rw [tl_append]; rfl) (by decide)
  rw [this] at hs
  cases hs
theorem rdBlks_mono {Rec Rec' : Nat → List Row → Nat → Prop} (hR : ∀ a b c, Rec a b c → Rec' a b c) {n j m a c : Nat} {bs : List (List Row)} (h : RdBlks Rec L n j m a bs c) : RdBlks Rec' L n j m a bs c := by
  induction h with
  | nil => exact .nil
  | cons c1 c2 h1 _ ih => exact .cons c1 c2 (hR _ _ _ h1) ih
theorem rdRows_law : ∀ {d n a c : Nat} {rs : List Row}, RdRows L d n a rs c → LRows L d n a rs c
  | 0, _, _, _, _, h => h.elim
  | d + 1, n, a, c, rs, h => by
    have hRow : ∀ {a r c}, RdRow (RdRows L d (n + 1)) L n a r c → RdRow (LRows L d (n + 1)) L n a r c := fun ⟨z, w, fs, ps, bs, h1, h2, h3, h4⟩ => ⟨z, w, fs, ps, bs, h1, h2, rdBlks_mono (fun _ _ _ h => rdRows_law h) h3, h4⟩
    rcases h with h | ⟨hno, r, rest, a1, e, h1, h2⟩
    · exact .inl h
    · refine .inr ⟨hno, r, rest, a1, e, hRow h1, ?_⟩
      clear e h1
      induction h2 with
      | stop hs => exact .stop (stop_bad hs)
      | step _ h3 _ ih => exact .step (hRow h3) ih
/-- the blocks, wrong by the program: the law says so at once, or stands where the program says so -/
theorem blksE_law {Rec Rec' : Nat → List Row → Nat → Prop} {RecE RecE' : Nat → Nat → Prop} {n : Nat} (hR : ∀ a b c, Rec a b c → Rec' a b c) (hE : ∀ a e, RecE a e → RecE' a e ∨ ∃ b c, Rec' a b c ∧ Stuck L (n + 1) c ∧ e = c + 1) {j m a e : Nat} (h : BlksE Rec RecE L n j m a e) (hm : j + m ≤ 2) :
    BlksE Rec' RecE' L n j m a e ∨ ∃ bs c, RdBlks Rec' L n j m a bs c ∧ Stuck L (n + 1) c ∧ e = c + 1 := by
  induction h with
  | els hj hne => exact .inl (.els hj hne)
  | @here j m a a1 e c1 c2 h1 =>
    rcases hE _ _ h1 with h | ⟨b, c, h2, h3, rfl⟩
    · exact .inl (.here c1 c2 h)
    · cases m with
      | zero => exact .inr ⟨[b], c, .cons c1 c2 h2 .nil, h3, rfl⟩
      | succ m =>
        have hj : j = 0 := by omega
        subst hj
        have : BlksE Rec' RecE' L n (0 + 1) (m + 1) c (c + 1) := .els rfl h3.else_
        exact .inl (.later c1 c2 h2 this)
  | @later j m a a1 a2 e b c1 c2 h1 _ ih =>
    rcases ih (by omega) with h | ⟨bs, c, h2, h3, h4⟩
    · exact .inl (.later c1 c2 (hR _ _ _ h1) h)
    · exact .inr ⟨b :: bs, c, .cons c1 c2 (hR _ _ _ h1) h2, h3, h4⟩
theorem rowsE_law : ∀ {d n a e : Nat}, RowsE L d n a e → LRowsB L d n a e ∨ ∃ rs c, LRows L d n a rs c ∧ Stuck L n c ∧ e = c + 1
  | 0, _, _, _, h => h.elim
  | d + 1, n, a, e, h => by
    have hRow : ∀ {a r c}, RdRow (RdRows L d (n + 1)) L n a r c → RdRow (LRows L d (n + 1)) L n a r c := fun ⟨z, w, fs, ps, bs, h1, h2, h3, h4⟩ => ⟨z, w, fs, ps, bs, h1, h2, rdBlks_mono (fun _ _ _ h => rdRows_law h) h3, h4⟩
    have hRowE : ∀ {a e}, RowE (RdRows L d (n + 1)) (RowsE L d (n + 1)) L n a e → (HeadBad L n a ∧ e = a + 1) ∨ LRowB (LRows L d (n + 1)) (LRowsB L d (n + 1)) L n a e ∨ ∃ r c, RdRow (LRows L d (n + 1)) L n a r c ∧ Stuck L n c ∧ e = c + 1 := fun {a e} h => by
      rcases h with h | ⟨z, w, fs, ps, hz, hd, hb⟩
      · exact .inl h
      · have h2 : nbF fs ≤ 2 := nb_few _ (fieldsOf_some hd.fd)
        rcases blksE_law (Rec' := LRows L d (n + 1)) (RecE' := LRowsB L d (n + 1)) (fun _ _ _ h => rdRows_law h) (fun _ _ h => rowsE_law h) hb (by omega) with h | ⟨bs, c, h, hs, e1⟩
        · exact .inr (.inl ⟨z, w, fs, ps, hz, hd, h⟩)
        · exact .inr (.inr ⟨_, c, ⟨z, w, fs, ps, bs, hz, hd, h, rfl⟩, hs.down, e1⟩)
    obtain ⟨hno, h | ⟨r, a1, h1, h2⟩⟩ := h
    · rcases hRowE h with ⟨h, e1⟩ | h | ⟨r, c, h, hs, e1⟩
      · exact .inl ⟨hno, .inl ⟨h, e1⟩⟩
      · exact .inl ⟨hno, .inr (.here h)⟩
      · exact .inr ⟨[r], c, .inr ⟨hno, r, [], c, rfl, h, .stop (by obtain ⟨_, _, _, h⟩ := hs; exact h)⟩, hs, e1⟩
    · have more : ∀ {a e}, MoreE (RdRow (RdRows L d (n + 1)) L n) (RowE (RdRows L d (n + 1)) (RowsE L d (n + 1)) L n) L n a e → LMoreB (RdRow (LRows L d (n + 1)) L n) (LRowB (LRows L d (n + 1)) (LRowsB L d (n + 1)) L n) a e ∨ ∃ rs c, LMore (RdRow (LRows L d (n + 1)) L n) L n a rs c ∧ Stuck L n c ∧ e = c + 1 := fun {a e} h => by
        induction h with
        | @here a e hst h =>
          rcases hRowE h with ⟨h, e1⟩ | h | ⟨r, c, h, hs, e1⟩
          · obtain ⟨z, hz, hs, _⟩ := hst
            exact .inr ⟨[], a, .stop h, ⟨z, hz, hs, h⟩, e1⟩
          · exact .inl (.here h)
          · exact .inr ⟨[r], c, .step h (.stop (by obtain ⟨_, _, _, h⟩ := hs; exact h)), hs, e1⟩
        | later _ h3 _ ih =>
          rcases ih with h | ⟨rs, c, h, hs, e1⟩
          · exact .inl (.later (hRow h3) h)
          · exact .inr ⟨_ :: rs, c, .step (hRow h3) h, hs, e1⟩
      rcases more h2 with h | ⟨rs, c, h, hs, e1⟩
      · exact .inl ⟨hno, .inr (.later (hRow h1) h)⟩
      · exact .inr ⟨r :: rs, c, .inr ⟨hno, r, rs, a1, rfl, hRow h1, h⟩, hs, e1⟩
end
end Ft
set_option Elab.async false
set_option linter.all false
set_option maxRecDepth 100000
set_option maxHeartbeats 4000000
namespace Ft
open PySem L2
abbrev sLDraw : Stmt := topS 31
theorem scLDraw : FnScope ["_law_source_here", "_law_many", "_law_digit", "_law_seed"] ["_law_source_here", "_law_many"] (defScope sLDraw) := ⟨rfl, rfl, rfl, by decide +kernel, rfl, by decide +kernel, by decide +kernel⟩
def spLDraw : Sp := fun vs H Q _ => ∃ (a : Addr) (m n : Int), vs = [.ref a, .int m] ∧ Src H a n ∧ n < 2 ^ 40 ∧ 0 < m ∧ m < 2 ^ 60 ∧
  ∀ H' k, Fr (· ≠ a) H H' → Src H' a (n + 1) → 0 ≤ k → k < m → Q (.int k) H'
section
variable {P : Program} {w : World} {K : PySem.W.Frag} {mg : Str → Option Value} {base : Heap}
theorem ok_LDraw {f : Addr} {fd : FuncData} {k : Nat} (F : Fun K "_law_draw" "_law_draw" sLDraw f fd) (B : Bl mg) : FnOk P w K mg base CX0 (k + 1) f fd ["_law_source_here", "_law_many"] spLDraw := by
  refine F.ok scLDraw (fun vs H Q E h => ?_) (fun cdv A outer s H vs Q E hr h => ?_)
  · obtain ⟨a, m, n, rfl, _⟩ := h
    rfl
  obtain ⟨a, m, n, rfl, ⟨d, sd, ha, hs0, hs1, hn0⟩, hn1, hm0, hm1, q⟩ := h
  refine ⟨_, (pss_cons (ps_asg (pe_op op_add (pe_ix ix_list (pv 0) pe_int (fun _ _ => rfl)) pe_int) (pg_sub (pv 0) pe_int set_list))
      (pss_cons (ps_if (pt_cmpR op_gt (pe_ix ix_list (pv 0) pe_int (fun _ _ => rfl)) pe_int (nomark _)) (pss_cons (ps_set (i := 2) scLDraw.nd rfl (by first | exact Or.inl rfl | exact Or.inr rfl) (pe_op op_mod (pe_callTy call_int1 (by rfl) B.int (by decide +kernel) (pa_cons (pe_ix ix_list (pv 0) pe_int (fun _ _ => rfl)) pa_nil)) (pv 1)))
      (pss_cons (ps_asg (pe_op op_fdivW (pe_ix ix_list (pv 0) pe_int (fun _ _ => rfl)) (pv 1)) (pg_sub (pv 0) pe_int set_list))
      (pss_one (ps_ret (pv 2))))) pss_nil)
      (pss_cons (ps_set (i := 3) scLDraw.nd rfl (by first | exact Or.inl rfl | exact Or.inr rfl) (pe_op op_mod (pe_op op_pow (pe_callTy call_int1 (by rfl) B.int (by decide +kernel) (pa_cons (pe_op op_add (pe_ix ix_list (pv 0) pe_int (fun _ _ => rfl)) (pe_op op_mul pe_int (pe_ix ix_list (pv 0) pe_int (fun _ _ => rfl)))) pa_nil)) pe_int) pe_int))
      (pss_one (ps_ret (pe_op op_mod (pe_op op_fdivW (pe_op op_mod (pe_op op_mul (pe_op op_add (pv 3) (pe_ix ix_list (pv 0) pe_int (fun _ _ => rfl))) pe_int) pe_int) pe_int) (pv 1))))))), ?_⟩
  have a0 : ∀ x y z : Int, atI ([.int x, .int y, .int z] : List V) 0 = some (.int x) := fun _ _ _ => rfl
  have a1 : ∀ x y z : Int, atI ([.int x, .int y, .int z] : List V) 1 = some (.int y) := fun _ _ _ => rfl
  have a2 : ∀ x y z : Int, atI ([.int x, .int y, .int z] : List V) 2 = some (.int z) := fun _ _ _ => rfl
  -- the count
  refine ⟨_, rfl, a, _, 2, _, rfl, rfl, SqL.of ha, a2 _ _ _, n, 1, rfl, rfl, _, rfl, a, _, 2, 2, rfl, rfl, ha, rfl, ?_⟩
  have hb : (upd H a (.lst [.int d, .int sd, .int (n + 1)])) a = some (.lst [.int d, .int sd, .int (n + 1)]) := upd_same
  have fb : Fr (· ≠ a) H (upd H a (.lst [.int d, .int sd, .int (n + 1)])) := Fr.put (fun z => z rfl)
  show tSeq _ _ _ _ (upd H a (.lst [.int d, .int sd, .int (n + 1)]))
  -- the digits
  refine ⟨_, rfl, a, _, 0, _, rfl, rfl, SqL.of hb, a0 _ _ _, d, 0, rfl, rfl, _, rfl, ite2 (fun c => ?_) (fun c => ?_)⟩
  · have c' : (0 : Int) < d := of_decide_eq_true c
    refine ⟨_, rfl, a, _, 0, _, rfl, rfl, SqL.of hb, a0 _ _ _, .inl ⟨d, rfl, _, rfl, d, m, rfl, rfl, hm0, ?_⟩⟩
    refine ⟨_, rfl, a, _, 0, _, rfl, rfl, SqL.of hb, a0 _ _ _, _, rfl, d, m, rfl, rfl, wide_div (b := 60) hm0 (by omega) (by decide) (by decide), _, rfl, a, _, 0, 0, rfl, rfl, hb, rfl, ?_⟩
    refine ⟨_, rfl, q _ _ (fb.trans (Fr.put (fun z => z rfl))) ⟨d / m, sd, upd_same, hs0, hs1, by omega⟩ (Int.emod_nonneg _ (by omega)) (Int.emod_lt_of_pos _ hm0)⟩
  · refine ⟨_, rfl, a, _, 1, _, rfl, rfl, SqL.of hb, a1 _ _ _, _, rfl, a, _, 2, _, rfl, rfl, SqL.of hb, a2 _ _ _, 7919, n + 1, rfl, rfl, .inl ⟨by decide, by decide⟩, sd, _, rfl, rfl, .inl ⟨_, rfl, ?_⟩⟩
    refine ⟨_, 5, rfl, rfl, ⟨by decide, by decide, by omega⟩, _, 2147483647, rfl, rfl, (by decide : (0 : Int) < 2147483647), ?_⟩
    have z0 : 0 ≤ (sd + 7919 * (n + 1)) ^ (5 : Int).toNat % 2147483647 := Int.emod_nonneg _ (by decide)
    have z1 : (sd + 7919 * (n + 1)) ^ (5 : Int).toNat % 2147483647 < 2147483647 := Int.emod_lt_of_pos _ (by decide)
    refine ⟨_, rfl, _, rfl, a, _, 2, _, rfl, rfl, SqL.of hb, a2 _ _ _, _, n + 1, rfl, rfl, _, 40692, rfl, rfl, .inl ⟨by omega, by omega⟩, _, 2147483629, rfl, rfl, (by decide : (0 : Int) < 2147483629), _, 16, rfl, rfl, wide_div (b := 5) (by decide) (by decide) (by decide) (by decide), _, rfl, _, m, rfl, rfl, hm0, ?_⟩
    exact q _ _ fb ⟨d, sd, hb, hs0, hs1, by omega⟩ (Int.emod_nonneg _ (by omega)) (Int.emod_lt_of_pos _ hm0)
end
end Ft
set_option Elab.async false
set_option linter.all false
set_option maxRecDepth 100000
set_option maxHeartbeats 4000000
namespace Ft
open PySem L2
section
variable {P : Program} {w : World} {K : PySem.W.Frag} {mg : Str → Option Value} {base : Heap}
abbrev sLSource : Stmt := topS 30
theorem scLSource : FnScope ["_law_script", "_law_k", "_law_cell", "_law_deep"] ["_law_script", "_law_k"] (defScope sLSource) := ⟨rfl, rfl, rfl, by decide +kernel, rfl, by decide +kernel, by decide +kernel⟩
def spLSource (K : PySem.W.Frag) : Sp := fun vs H Q _ => ∃ (a : Addr) (ns : List Int) (k : Int), vs = [.ref a, .int k] ∧ SqL K H a (ns.map V.int) ∧ 0 ≤ k ∧ k ≤ 1000 ∧
  ∀ H' p, Same H H' → H p = none → Src H' p 0 → Q (.ref p) H'
theorem ok_LSource {f : Addr} {fd : FuncData} {k : Nat} (F : Fun K "_law_source" "_law_source" sLSource f fd) (B : Bl mg) : FnOk P w K mg base CX0 (k + 1) f fd ["_law_script", "_law_k"] (spLSource K) := by
  refine F.ok scLSource (fun vs H Q E h => ?_) (fun cdv A outer s H vs Q E hr h => ?_)
  · obtain ⟨a, ns, k, rfl, _⟩ := h
    rfl
  obtain ⟨a, ns, k, rfl, hS, hk0, hk1, q⟩ := h
  refine ⟨_, (pss_cons (ps_set (i := 2) scLSource.nd rfl (by first | exact Or.inl rfl | exact Or.inr rfl) pe_int)
      (pss_cons (ps_set (i := 3) scLSource.nd rfl (by first | exact Or.inl rfl | exact Or.inr rfl) pe_int)
      (pss_cut (ps_if (pt_cmpR op_gt (pe_callB call_len_seq (by rfl) B.len (by decide +kernel) (pa_cons (pv 0) pa_nil)) pe_int (nomark _)) (pss_one (ps_set (i := 2) scLSource.nd rfl (by first | exact Or.inl rfl | exact Or.inr rfl) (pe_ix ix_list (pv 0) (pe_op op_mod (pe_callTy call_int1 (by rfl) B.int (by decide +kernel) (pa_cons (pv 1) pa_nil)) (pe_callB call_len_seq (by rfl) B.len (by decide +kernel) (pa_cons (pv 0) pa_nil))) (fun _ _ => rfl)))) pss_nil)
      (pss_cut (ps_if (PW.pt (pw_and (pt_cmpR op_lt (pv 1) (pe_callB call_len_seq (by rfl) B.len (by decide +kernel) (pa_cons (pv 0) pa_nil)) (nomark _)) (pw_and1 (pt_cmpR op_ge (pv 2) (pe_op op_pow pe_int pe_int) (nomark _))))) (pss_one (ps_set (i := 3) scLSource.nd rfl (by first | exact Or.inl rfl | exact Or.inr rfl) (pv 2))) pss_nil)
      (pss_one (ps_ret (pe_lst (pa_cons (pv 3) (pa_cons (pe_op op_add (pe_op op_add (pe_op op_mod (pe_callTy call_int1 (by rfl) B.int (by decide +kernel) (pa_cons (pv 2) pa_nil)) pe_int) (pe_op op_mul pe_int (pv 1))) pe_int) (pa_cons pe_int pa_nil)))))))))), ?_⟩
  have hl : (ns.map V.int).length = ns.length := List.length_map _
  -- the end, for any cell and any deep
  have fin : ∀ (c d : Int), (∀ p, H p = none → Q (.ref p) (upd H p (.lst [.int d, .int (c % 2147483647 + 7919000 * k + 104729), .int 0]))) := fun c d p np => by
    have z0 : 0 ≤ c % 2147483647 := Int.emod_nonneg _ (by decide)
    have z1 : c % 2147483647 < 2147483647 := Int.emod_lt_of_pos _ (by decide)
    exact q _ p (Same.new np) np ⟨d, _, upd_same, by omega, by omega, by decide⟩
  refine ⟨fun σ H' => H = H' ∧ ∃ c : Int, σ = [some (.ref a), some (.int k), some (.int c), some (.int 0)], ?_, ?_⟩
  · refine ⟨_, rfl, a, _, rfl, .inl hS, _, 0, rfl, rfl, _, rfl, ite2 (fun c => ?_) (fun c => ?_)⟩
    · have c' : (0 : Int) < ((ns.map V.int).length : Nat) := of_decide_eq_true c
      rw [hl] at c'
      have m0 : 0 ≤ k % (ns.length : Int) := Int.emod_nonneg _ (by omega)
      have m1 : k % (ns.length : Int) < (ns.length : Int) := Int.emod_lt_of_pos _ c'
      obtain ⟨x, hx, hm⟩ := getD_mem (xs := ns.map V.int) m0 (by rw [hl]; exact m1)
      obtain ⟨z, _, rfl⟩ := List.mem_map.mp hm
      refine ⟨_, rfl, _, rfl, .inl ⟨k, rfl, _, rfl, a, _, rfl, .inl hS, k, _, rfl, rfl, (by rw [hl]; exact c'), a, _, _, _, rfl, rfl, hS, (by rw [hl]; exact hx), rfl, z, rfl⟩⟩
    · exact ⟨rfl, 0, rfl⟩
  · rintro σ H' ⟨rfl, c, rfl⟩
    refine ⟨fun σ H' => H = H' ∧ ∃ d : Int, σ = [some (.ref a), some (.int k), some (.int c), some (.int d)], ?_, ?_⟩
    · refine ⟨_, rfl, _, rfl, a, _, rfl, .inl hS, k, _, rfl, rfl, _, rfl, ite2 (fun e => ?_) (fun e => ?_)⟩
      · refine ⟨_, rfl, 10, 18, rfl, rfl, ⟨by decide, by decide, by decide⟩, c, _, rfl, rfl, _, rfl, ite2 (fun e => ?_) (fun e => ?_)⟩
        · exact ⟨_, rfl, rfl, c, rfl⟩
        · exact ⟨rfl, 0, rfl⟩
      · exact iteF ⟨rfl, 0, rfl⟩
    · rintro σ H' ⟨rfl, d, rfl⟩
      refine ⟨_, rfl, _, rfl, .inl ⟨c, rfl, c, 2147483647, rfl, rfl, (by decide : (0 : Int) < 2147483647), _, rfl, 7919000, k, rfl, rfl, .inl ⟨by decide, by decide⟩, _, _, rfl, rfl, _, _, rfl, rfl, (by show 3 ≤ sizeLine; decide), ?_⟩⟩
      exact fin c d
abbrev sLPick : Stmt := topS 32
theorem scLPick : FnScope ["_law_source_here", "_law_some"] ["_law_source_here", "_law_some"] (defScope sLPick) := ⟨rfl, rfl, rfl, by decide +kernel, rfl, by decide +kernel, by decide +kernel⟩
def spLPick : Sp := fun vs H Q _ => ∃ (a b : Addr) (xs : List V) (n : Int), vs = [.ref a, .ref b] ∧ Src H a n ∧ n < 2 ^ 40 ∧ b ≠ a ∧ H b = some (.lst xs) ∧ xs ≠ [] ∧ xs.length < 1000000 ∧
  ∀ H' x, Fr (· ≠ a) H H' → Src H' a (n + 1) → x ∈ xs → Q x H'
theorem ok_LPick {f : Addr} {fd : FuncData} {k : Nat} (F : Fun K "_law_pick" "_law_pick" sLPick f fd) (B : Bl mg) (gLDraw : Own P w K mg base k "_law_draw" ["_law_source_here", "_law_many"] spLDraw) : FnOk P w K mg base CX0 (k + 1) f fd ["_law_source_here", "_law_some"] spLPick := by
  refine F.ok scLPick (fun vs H Q E h => ?_) (fun cdv A outer s H vs Q E hr h => ?_)
  · obtain ⟨a, b, xs, n, rfl, _⟩ := h
    rfl
  obtain ⟨a, b, xs, n, rfl, hs, hn, nb, hb, hx, hl, q⟩ := h
  refine ⟨_, (pss_one (ps_ret (pe_ix ix_list (pv 1) (pe_own gLDraw (hr.mono (by omega)) (by rfl) (pa_cons (pv 0) (pa_cons (pe_callB call_len_seq (by rfl) B.len (by decide +kernel) (pa_cons (pv 1) pa_nil)) pa_nil))) (fun _ _ => rfl)))), ?_⟩
  have h0 : 0 < xs.length := List.length_pos_iff.mpr hx
  refine ⟨_, rfl, _, rfl, _, rfl, b, _, rfl, .inl (SqL.of hb), a, _, n, rfl, hs, hn, by omega, by omega, fun H' j fr sr j0 j1 => ?_⟩
  obtain ⟨x, e, m⟩ := getD_mem j0 j1
  exact ⟨b, xs, _, x, rfl, rfl, SqL.of (fr _ _ nb hb), e, q _ _ fr sr m⟩
end
end Ft
set_option Elab.async false
set_option linter.all false
set_option maxRecDepth 100000
set_option maxHeartbeats 4000000
namespace Ft
open PySem L2
section
variable {P : Program} {w : World} {K : PySem.W.Frag} {mg : Str → Option Value} {base : Heap}
abbrev sLWord : Stmt := topS 34
theorem scLWord : FnScope ["_law_source_here", "_law_some"] ["_law_source_here"] (defScope sLWord) := ⟨rfl, rfl, rfl, by decide +kernel, rfl, by decide +kernel, by decide +kernel⟩
def spLWord : Sp := fun vs H Q _ => ∃ (a : Addr) (n : Int), vs = [.ref a] ∧ Src H a n ∧ n < 2 ^ 40 ∧
  ∀ H' z, Fr (· ≠ a) H H' → Src H' a (n + 1) → isW z = true → Q (.str z) H'
def lawWords : List Str := ["a", "b", "c", "x", "yy", "z", "abcdefgh", "else", "nothing", "module", "load", "make", "when", "try"]
theorem lawWords_w : ∀ z ∈ lawWords, isW z = true := by decide +kernel
theorem ok_LWord {f : Addr} {fd : FuncData} {k : Nat} (F : Fun K "_law_word" "_law_word" sLWord f fd) (B : Bl mg) (gLPick : Own P w K mg base k "_law_pick" ["_law_source_here", "_law_some"] spLPick) : FnOk P w K mg base CX0 (k + 1) f fd ["_law_source_here"] spLWord := by
  refine F.ok scLWord (fun vs H Q E h => ?_) (fun cdv A outer s H vs Q E hr h => ?_)
  · obtain ⟨a, n, rfl, _⟩ := h
    rfl
  obtain ⟨a, n, rfl, hs, hn, q⟩ := h
  refine ⟨_, (pss_cons (ps_set (i := 1) scLWord.nd rfl (by first | exact Or.inl rfl | exact Or.inr rfl) (pe_lst (pa_cons pe_str (pa_cons pe_str (pa_cons pe_str (pa_cons pe_str (pa_cons pe_str (pa_cons pe_str (pa_cons pe_str (pa_cons pe_str (pa_cons pe_str (pa_cons pe_str (pa_cons pe_str (pa_cons pe_str (pa_cons pe_str (pa_cons pe_str pa_nil))))))))))))))))
      (pss_one (ps_ret (pe_own gLPick (hr.mono (by omega)) (by rfl) (pa_cons (pv 0) (pa_cons (pv 1) pa_nil)))))), ?_⟩
  refine ⟨(by show 14 ≤ sizeLine; decide), fun p np => ?_⟩
  refine ⟨_, rfl, _, rfl, a, p, lawWords.map V.str, n, rfl, hs.new np, hn, hs.nn np, upd_same, by decide, by decide, fun H' x fr sr hx => ?_⟩
  obtain ⟨z, hz, rfl⟩ := List.mem_map.mp hx
  exact q _ _ ((Fr.new np).trans fr) sr (lawWords_w z hz)
abbrev sLNumber : Stmt := topS 35
theorem scLNumber : FnScope ["_law_source_here"] ["_law_source_here"] (defScope sLNumber) := ⟨rfl, rfl, rfl, by decide +kernel, rfl, by decide +kernel, by decide +kernel⟩
def spLNumber : Sp := fun vs H Q _ => ∃ (a : Addr) (n : Int), vs = [.ref a] ∧ Src H a n ∧ n < 2 ^ 39 ∧
  ∀ H' i, Fr (· ≠ a) H H' → Src H' a (n + 2) → -999 ≤ i → i ≤ 999 → Q (.int i) H'
theorem ok_LNumber {f : Addr} {fd : FuncData} {k : Nat} (F : Fun K "_law_number" "_law_number" sLNumber f fd) (B : Bl mg) (gLPick : Own P w K mg base k "_law_pick" ["_law_source_here", "_law_some"] spLPick) (gLDraw : Own P w K mg base k "_law_draw" ["_law_source_here", "_law_many"] spLDraw) : FnOk P w K mg base CX0 (k + 1) f fd ["_law_source_here"] spLNumber := by
  refine F.ok scLNumber (fun vs H Q E h => ?_) (fun cdv A outer s H vs Q E hr h => ?_)
  · obtain ⟨a, n, rfl, _⟩ := h
    rfl
  obtain ⟨a, n, rfl, hs, hn, q⟩ := h
  refine ⟨_, (pss_one (ps_ret (pe_own gLPick (hr.mono (by omega)) (by rfl) (pa_cons (pv 0) (pa_cons (pe_lst (pa_cons pe_int (pa_cons pe_int (pa_cons (pe_un un_neg pe_int) (pa_cons pe_int (pa_cons pe_int (pa_cons (pe_un un_neg pe_int) (pa_cons pe_int (pa_cons pe_int (pa_cons (pe_un un_neg pe_int) (pa_cons pe_int (pa_cons (pe_un un_neg pe_int) (pa_cons (pe_op op_sub (pe_own gLDraw (hr.mono (by omega)) (by rfl) (pa_cons (pv 0) (pa_cons pe_int pa_nil))) pe_int) pa_nil))))))))))))) pa_nil))))), ?_⟩
  refine ⟨_, rfl, 1, rfl, 10, rfl, 100, rfl, 999, rfl, _, rfl, a, _, n, rfl, hs, by omega, by decide, by decide, fun H1 k1 fr1 sr1 k0 k2 => ?_⟩
  refine ⟨k1, 999, rfl, rfl, (by show 12 ≤ sizeLine; decide), fun p np => ?_⟩
  refine ⟨a, p, ([0, 1, -1, 5, 10, -10, 99, 100, -100, 999, -999, k1 - 999] : List Int).map V.int, _, rfl, sr1.new np, by omega, sr1.nn np, upd_same, by simp, by simp, fun H' x fr sr hx => ?_⟩
  obtain ⟨z, hz, rfl⟩ := List.mem_map.mp hx
  have e : n + 2 = n + 1 + 1 := by omega
  refine q _ _ (fr1.trans ((Fr.new np).trans fr)) (by rw [e]; exact sr) ?_ ?_
  · simp only [List.mem_cons, List.mem_nil_iff, or_false] at hz
    omega
  · simp only [List.mem_cons, List.mem_nil_iff, or_false] at hz
    omega
end
end Ft
set_option Elab.async false
set_option linter.all false
set_option maxRecDepth 100000
set_option maxHeartbeats 4000000
namespace Ft
open PySem L2
section
variable {P : Program} {w : World} {K : PySem.W.Frag} {mg : Str → Option Value} {base : Heap}
abbrev sLPlainRow : Stmt := topS 36
theorem scLPlainRow : FnScope ["_law_source_here", "_law_word_here", "_law_many", "_law_k"] ["_law_source_here", "_law_word_here"] (defScope sLPlainRow) := ⟨rfl, rfl, rfl, by decide +kernel, rfl, by decide +kernel, by decide +kernel⟩
def sayFail : List V := [.str "say", .str "fail"]
def manyT : List (Key × V) := [(Sum.inr "load", .int 2), (Sum.inr "copy", .int 2), (Sum.inr "seen", .int 2), (Sum.inr "pick", .int 3), (Sum.inr "part", .int 3)]
def plainC (p : Str × List Bool) : Bool := if inV (.str p.1) sayFail then decide (p.2 = [false]) else if p.1 = "put" then decide (p.2 = [true, false]) else decide (p.2 = List.replicate p.2.length true) && (decide (p.2.length ≤ 3) && decide ((valV (mergeK [] manyT) (Sum.inr p.1)).getD (.int 1) = .int p.2.length))
theorem plainC_ok : ∀ p ∈ plainT, plainC p = true := by decide +kernel
def spLPlainRow : Sp := fun vs H Q _ => ∃ (a : Addr) (n : Int) (z : Str) (ks : List Bool), vs = [.ref a, .str z] ∧ Src H a n ∧ n < 2 ^ 38 ∧ (z, ks) ∈ plainT ∧
  ∀ H' p fs n', Fr (· ≠ a) H H' → Src H' a n' → n ≤ n' → n' ≤ n + 4 → H p = none → H' p = some (.tup (.str z :: fs)) → Paired (fun k v => fldOk k v = true) ks fs → Q (.ref p) H'
theorem ok_LPlainRow {f : Addr} {fd : FuncData} {k : Nat} (F : Fun K "_law_plain_row" "_law_plain_row" sLPlainRow f fd) (B : Bl mg) (gLWord : Own P w K mg base k "_law_word" ["_law_source_here"] spLWord) (gLNumber : Own P w K mg base k "_law_number" ["_law_source_here"] spLNumber) : FnOk P w K mg base CX0 (k + 1) f fd ["_law_source_here", "_law_word_here"] spLPlainRow := by
  refine F.ok scLPlainRow (fun vs H Q E h => ?_) (fun cdv A outer s H vs Q E hr h => ?_)
  · obtain ⟨a, n, z, ks, rfl, _⟩ := h
    rfl
  obtain ⟨a, n, z, ks, rfl, hs, hn, hz, q⟩ := h
  refine ⟨_, (pss_cons (ps_if (pt_cmpR op_in_seq (pv 1) (pe_tup (pa_cons pe_str (pa_cons pe_str pa_nil))) (by rfl)) (pss_one (ps_ret (pe_tup (pa_cons (pv 1) (pa_cons (pe_own gLNumber (hr.mono (by omega)) (by rfl) (pa_cons (pv 0) pa_nil)) pa_nil))))) pss_nil)
      (pss_cons (ps_if (pt_cmpR op_eq (pv 1) pe_str (nomark _)) (pss_one (ps_ret (pe_tup (pa_cons (pv 1) (pa_cons (pe_own gLWord (hr.mono (by omega)) (by rfl) (pa_cons (pv 0) pa_nil)) (pa_cons (pe_own gLNumber (hr.mono (by omega)) (by rfl) (pa_cons (pv 0) pa_nil)) pa_nil)))))) pss_nil)
      (pss_cons (ps_set (i := 2) scLPlainRow.nd rfl (by first | exact Or.inl rfl | exact Or.inr rfl) (pe_dget2 (hu_of hr) (pe_disp (pps_cons pe_str pe_int (pps_cons pe_str pe_int (pps_cons pe_str pe_int (pps_cons pe_str pe_int (pps_cons pe_str pe_int pps_nil))))) (by rfl) (by rfl) (fun z => by cases z) (by decide)) (pv 1) pe_int ⟨by rfl, by rfl, by rfl, by rfl⟩))
      (pss_one (ps_ret (pe_callTy call_tuple_of (by rfl) B.tuple (by decide +kernel) (pa_cons (pe_op op_cat (pe_lst (pa_cons (pv 1) pa_nil)) (pe_lc (own := [("_law_k", 3)]) (g := (gName 3)) (tt := tYes) (by rfl) scLPlainRow.nd (pi_range1 (by rfl) B.range (pa_cons (pv 2) pa_nil)) (blkOk_by (own := [("_law_k", 3)]) (N := ["_law_source_here", "_law_word_here", "_law_many", "_law_k"]) (sc := defScope sLPlainRow) (by decide +kernel)) (fun _ _ _ _ _ => (pg_name (i := 3) scLPlainRow.nd rfl (by first | exact Or.inl rfl | exact Or.inr rfl))) (fun _ _ _ _ _ => pts_nil) (fun _ _ _ _ _ => (pe_own gLWord (hr.mono (by omega)) (by rfl) (pa_cons (pv 0) pa_nil))))) pa_nil))))))), ?_⟩
  have pc := plainC_ok _ hz
  unfold plainC at pc
  have two : ∀ {x y : V} {p : Addr} {H : Hp}, H p = none → (upd H p (.tup [x, y])) p = some (.tup [x, y]) := fun _ => upd_same
  refine ⟨_, rfl, (by show 2 ≤ sizeLine; decide), fun t0 n0 => ?_⟩
  have f0 : Fr (· ≠ a) H (upd H t0 (.tup sayFail)) := Fr.new n0
  refine ⟨t0, sayFail, rfl, .inr (SqT.of upd_same), rfl, rfl, _, rfl, ite2 (fun c => ?_) (fun c => ?_)⟩
  · -- say, fail
    have c' : inV (.str z) sayFail = true := c
    rw [if_pos c'] at pc
    have ek : ks = [false] := of_decide_eq_true pc
    subst ek
    refine ⟨_, rfl, _, rfl, a, n, rfl, hs.new n0, by omega, fun H' i fr sr i0 i1 => ?_⟩
    refine ⟨(by show 2 ≤ sizeLine; decide), fun p np => ?_⟩
    have np' : H p = none := by
      cases e : H p with
      | none => rfl
      | some o =>
        by_cases ea : p = a
        · obtain ⟨o', eo⟩ := sr.is
          rw [ea, eo] at np; cases np
        · rw [(f0.trans fr) p o ea e] at np; cases np
    exact q _ p [.int i] (n + 2) (f0.trans (fr.trans (Fr.new np))) (sr.new np) (by omega) (by omega) np' upd_same (.cons (by unfold fldOk; simp [i0, i1]) .nil)
  · have c' : inV (.str z) sayFail = false := Bool.eq_false_iff.mpr c
    rw [c', if_neg Bool.false_ne_true] at pc
    refine ⟨_, rfl, rfl, _, rfl, ite2 (fun e => ?_) (fun e => ?_)⟩
    · -- put
      have e' : z = "put" := V.str.inj (of_decide_eq_true e)
      rw [if_pos e'] at pc
      have ek : ks = [true, false] := of_decide_eq_true pc
      subst ek
      refine ⟨_, rfl, _, rfl, a, n, rfl, hs.new n0, by omega, fun H1 y fr1 sr1 hy => ?_⟩
      refine ⟨_, rfl, a, n + 1, rfl, sr1, by omega, fun H' i fr sr i0 i1 => ?_⟩
      refine ⟨(by show 3 ≤ sizeLine; decide), fun p np => ?_⟩
      have np' : H p = none := by
        cases e : H p with
        | none => rfl
        | some o =>
          by_cases ea : p = a
          · obtain ⟨o', eo⟩ := sr.is
            rw [ea, eo] at np; cases np
          · rw [(f0.trans (fr1.trans fr)) p o ea e] at np; cases np
      have en : n + 1 + 2 = n + 3 := by omega
      exact q _ p [.str y, .int i] (n + 3) (f0.trans (fr1.trans (fr.trans (Fr.new np)))) (by rw [← en]; exact sr.new np) (by omega) (by omega) np' upd_same (.cons (by unfold fldOk; exact hy) (.cons (by unfold fldOk; simp [i0, i1]) .nil))
    · -- words
      have e' : ¬ z = "put" := fun h => e (by rw [h]; exact decide_eq_true rfl)
      rw [if_neg e', Bool.and_eq_true, Bool.and_eq_true] at pc
      have ek : ks = List.replicate ks.length true := of_decide_eq_true pc.1
      have e3 : ks.length ≤ 3 := of_decide_eq_true pc.2.1
      have em : (valV (mergeK [] manyT) (Sum.inr z)).getD (.int 1) = .int ks.length := of_decide_eq_true pc.2.2
      generalize ks.length = m at ek e3 em
      subst ek
      refine fun dd nd => ⟨upd_same, manyT, rfl, by decide, dd, rfl, .inl ⟨_, .inl upd_same⟩, _, rfl, _, .inl ⟨_, Sum.inr z, .inl upd_same, rfl, rfl⟩, ?_⟩
      rw [em]
      -- the list of the words
      refine ⟨_, rfl, (by show 1 ≤ sizeLine; decide), fun l0 nl => ?_⟩
      generalize hG : upd _ l0 _ = G
      rw [upd_upd] at nl hG
      have fD : Fr (· ≠ a) H G := by rw [← hG]; exact f0.trans ((Fr.new nd).trans (Fr.new nl))
      have sD : Src G a n := by rw [← hG]; exact ((hs.new n0).new nd).new nl
      have hl0 : G l0 = some (.lst [.str z]) := by rw [← hG]; exact upd_same
      have l0a : l0 ≠ a := by
        obtain ⟨d1, s1, e1, _⟩ := sD
        exact ne_of hl0 e1 (by intro h; cases h)
      have l0n : H l0 = none := f0.free l0a (by
        by_cases ed : l0 = dd
        · rw [ed]; exact nd
        · rw [upd_ne ed] at nl; exact nl)
      refine ⟨_, rfl, m, rfl, by omega, by omega, fun D nD => ?_⟩
      refine lc_it (walk_range (lo := 0) (n := (m : Int).toNat)) (fun i H' => Fr (· ≠ a) G H' ∧ Src H' a (n + i) ∧ ∃ zs : List Str, zs.length = i ∧ (∀ y ∈ zs, isW y = true) ∧ H' D = some (.lst (zs.map V.str)))
        ⟨Fr.new nD, by simpa using sD.new nD, [], rfl, by simp, upd_same⟩ (fun _ _ _ _ => trivial) ?_ ?_
      · rintro i x H1 H2 hi ⟨fr1, sr1, zs, ez, hw, hD⟩ ⟨rfl, rfl⟩
        refine ⟨rfl, ?_⟩
        refine ⟨_, rfl, a, n + i, rfl, sr1, by omega, fun H' y fr2 sr2 hy => ?_⟩
        have Da : D ≠ a := sD.nn nD
        refine ⟨_, fr2 _ _ Da hD, by rw [List.length_map, ez]; exact small (by omega), (fr1.trans fr2).upN nD, ?_, zs ++ [y], by simp [ez], ?_, ?_⟩
        · have e : n + ((i + 1 : Nat) : Int) = n + i + 1 := by omega
          rw [e]; exact sr2.ne Da.symm
        · intro u hu
          rcases List.mem_append.mp hu with h | h
          · exact hw u h
          · rw [List.mem_singleton.mp h]; exact hy
        · rw [upd_same, List.map_append]; rfl
      · rintro H1 ⟨fr1, sr1, zs, ez, hw, hD⟩
        have ez' : zs.length = m := by omega
        refine ⟨l0, D, _, _, rfl, rfl, fr1 _ _ l0a hl0, hD, by rw [List.length_map, ez']; exact smallE (by simp; omega), fun p np => ?_⟩
        refine ⟨p, _, rfl, .inl ⟨SqL.of upd_same, fun l nl2 => ?_⟩⟩
        have nH1 : H1 l = none := by
          by_cases e : l = p
          · rw [e]; exact np
          · rw [upd_ne e] at nl2; exact nl2
        obtain ⟨o, eo⟩ := sr1.is
        refine q _ l (zs.map V.str) (n + m) (fD.trans (fr1.trans ((Fr.new np).trans (Fr.new nl2)))) ?_ (by omega) (by omega) ((fD.trans fr1).freeD eo nH1) upd_same ?_
        · have e : ((m : Int).toNat : Int) = m := by omega
          rw [← e]; exact (sr1.new np).new nl2
        · have pw : ∀ (us : List Str), (∀ u ∈ us, isW u = true) → Paired (fun k v => fldOk k v = true) (List.replicate us.length true) (us.map V.str) := by
            intro us
            induction us with
            | nil => intro _; exact .nil
            | cons u us ih => intro h; exact .cons (h u (by simp)) (ih fun y hy => h y (by simp [hy]))
          rw [← ez']; exact pw zs hw
end
end Ft
set_option Elab.async false
set_option linter.all false
set_option maxRecDepth 100000
set_option maxHeartbeats 4000000
namespace Ft
open PySem L2
/-- the source at a and the budget at u have gone on by at most c draws, all else stands -/
def Pr (H : Hp) (a u : Addr) (n c : Int) (H' : Hp) : Prop := Fr (fun x => x ≠ a ∧ x ≠ u) H H' ∧ ∃ n' b0 b1, n ≤ n' ∧ n' ≤ n + c ∧ Src H' a n' ∧ H' u = some (.lst [.int b0, .int b1])
theorem Src.nu {H : Hp} {a u : Addr} {n b0 b1 : Int} (s : Src H a n) (h : H u = some (.lst [.int b0, .int b1])) : u ≠ a := by
  obtain ⟨d, s, e, _⟩ := s
  exact ne_of h e (by intro z; cases z)
section
variable {H H1 H2 : Hp} {a u : Addr} {n c c1 c2 b0 b1 : Int}
theorem Pr.start (hs : Src H a n) (hu : H u = some (.lst [.int b0, .int b1])) : Pr H a u n 0 H := ⟨Fr.refl, n, b0, b1, by omega, by omega, hs, hu⟩
theorem Pr.le (h : Pr H a u n c H1) (hc : c ≤ c1) : Pr H a u n c1 H1 := by
  obtain ⟨f, n', b0, b1, h1, h2, r⟩ := h
  exact ⟨f, n', b0, b1, h1, by omega, r⟩
theorem Pr.new {p : Addr} {o : HO} (h : Pr H a u n c H1) (np : H1 p = none) : Pr H a u n c (upd H1 p o) := by
  obtain ⟨f, n', b0, b1, h1, h2, h3, h4⟩ := h
  exact ⟨f.trans (Fr.new np), n', b0, b1, h1, h2, h3.new np, by rw [upd_ne (ne_of_none h4 np)]; exact h4⟩
theorem Pr.bud {x y : Int} (h : Pr H a u n c H1) : Pr H a u n c (upd H1 u (.lst [.int x, .int y])) := by
  obtain ⟨f, n', b0, b1, h1, h2, h3, h4⟩ := h
  exact ⟨f.trans (Fr.put fun z => z.2 rfl), n', x, y, h1, h2, h3.ne (h3.nu h4).symm, upd_same⟩
theorem Pr.upN {p : Addr} {o : HO} (h : Pr H a u n c H1) (np : H p = none) (pa : p ≠ a) (pu : p ≠ u) : Pr H a u n c (upd H1 p o) := by
  obtain ⟨f, n', b0, b1, h1, h2, h3, h4⟩ := h
  exact ⟨f.upN np, n', b0, b1, h1, h2, h3.ne pa.symm, by rw [upd_ne pu.symm]; exact h4⟩
theorem Pr.draws (h : Pr H a u n c H1) : ∃ n', n ≤ n' ∧ n' ≤ n + c ∧ Src H1 a n' ∧ ∀ {H2 : Hp} {n2 : Int}, Fr (· ≠ a) H1 H2 → Src H2 a n2 → n' ≤ n2 → n2 ≤ n' + c2 → Pr H a u n (c + c2) H2 := by
  obtain ⟨f, n', b0, b1, h1, h2, h3, h4⟩ := h
  exact ⟨n', h1, h2, h3, fun f2 s2 l1 l2 => ⟨f.trans (f2.mono fun x k => k.1), _, b0, b1, by omega, by omega, s2, f2 _ _ (h3.nu h4) h4⟩⟩
theorem Pr.goes (h : Pr H a u n c H1) : ∃ n' b0 b1, n ≤ n' ∧ n' ≤ n + c ∧ Src H1 a n' ∧ H1 u = some (.lst [.int b0, .int b1]) ∧ ∀ {H2 : Hp}, Pr H1 a u n' c2 H2 → Pr H a u n (c + c2) H2 := by
  obtain ⟨f, n', b0, b1, h1, h2, h3, h4⟩ := h
  refine ⟨n', b0, b1, h1, h2, h3, h4, fun k => ?_⟩
  obtain ⟨f2, n2, x, y, l1, l2, l3, l4⟩ := k
  exact ⟨f.trans f2, n2, x, y, by omega, by omega, l3, l4⟩
theorem Pr.free (h : Pr H a u n c H1) {x : Addr} (hx : H1 x = none) : H x = none := by
  obtain ⟨f, n', b0, b1, h1, h2, h3, h4⟩ := h
  cases e : H x with
  | none => rfl
  | some o =>
    obtain ⟨o', eo⟩ := h3.is
    have xa : x ≠ a := fun z => by rw [z, eo] at hx; cases hx
    have xu : x ≠ u := fun z => by rw [z, h4] at hx; cases hx
    rw [f x o ⟨xa, xu⟩ e] at hx; cases hx
theorem Pr.fr (h : Pr H a u n c H1) : Fr (fun x => x ≠ a ∧ x ≠ u) H H1 := h.1
theorem Pr.an (h : Pr H a u n c H1) {x : Addr} (hx : H1 x = none) : x ≠ a ∧ x ≠ u := by
  obtain ⟨f, n', b0, b1, h1, h2, h3, h4⟩ := h
  exact ⟨h3.nn hx, fun z => by rw [z, h4] at hx; cases hx⟩
end
def cRow : Nat → Int
  | 0 => 8
  | d + 1 => 10 + 8 * cRow d
theorem cRow_pos : ∀ d, 0 ≤ cRow d
  | 0 => by decide
  | d + 1 => by have := cRow_pos d; unfold cRow; omega
def spLRow (d : Nat) : Sp := fun vs H Q _ => ∃ (a u : Addr) (wi : Bool) (n b0 b1 : Int), vs = [.ref a, .ref u, .int d, .bl wi] ∧ Src H a n ∧ H u = some (.lst [.int b0, .int b1]) ∧ n + cRow d < 2 ^ 37 ∧
  ∀ H' v r, Pr H a u n (cRow d) H' → RowAt (fun x => H x = none) lawK H' d v r → RowO8 d wi r → Q v H'
def spLBlock (d : Nat) : Sp := fun vs H Q _ => ∃ (a u : Addr) (wi : Bool) (n b0 b1 : Int), vs = [.ref a, .ref u, .int d, .bl wi] ∧ Src H a n ∧ H u = some (.lst [.int b0, .int b1]) ∧ n + (1 + 4 * cRow d) < 2 ^ 37 ∧
  ∀ H' v rs, Pr H a u n (1 + 4 * cRow d) H' → RowsAt (fun x => H x = none) lawK H' d v rs → rs.length ≤ 4 → (∀ r ∈ rs, RowO8 d wi r) → Q v H'
section
variable {P : Program} {w : World} {K : PySem.W.Frag} {mg : Str → Option Value} {base : Heap}
abbrev sLBlock : Stmt := topS 38
theorem scLBlock : FnScope ["_law_source_here", "_law_budget", "_law_deep", "_law_in_make", "_law_found", "_law_k"] ["_law_source_here", "_law_budget", "_law_deep", "_law_in_make"] (defScope sLBlock) := ⟨rfl, rfl, rfl, by decide +kernel, rfl, by decide +kernel, by decide +kernel⟩
theorem ok_LBlock {f : Addr} {fd : FuncData} {k d : Nat} (F : Fun K "_law_block" "_law_block" sLBlock f fd) (B : Bl mg) (hk : 1 ≤ k) (gLDraw : Own P w K mg base 1 "_law_draw" ["_law_source_here", "_law_many"] spLDraw) (gLRow : Own P w K mg base k "_law_row" ["_law_source_here", "_law_budget", "_law_deep", "_law_in_make"] (spLRow d)) : FnOk P w K mg base CX0 (k + 1) f fd ["_law_source_here", "_law_budget", "_law_deep", "_law_in_make"] (spLBlock d) := by
  refine F.ok scLBlock (fun vs H Q E h => ?_) (fun cdv A outer s H vs Q E hr h => ?_)
  · obtain ⟨a, u, wi, n, b0, b1, rfl, _⟩ := h
    rfl
  obtain ⟨a, u, wi, n, b0, b1, rfl, hs, hu, hn, q⟩ := h
  refine ⟨_, (pss_cons (ps_set (i := 4) scLBlock.nd rfl (by first | exact Or.inl rfl | exact Or.inr rfl) (pe_lst pa_nil))
      (pss_cons (ps_for PassesOwn.never rfl (pi_range1 (by rfl) B.range (pa_cons (pe_own gLDraw (hr.mono (by omega)) (by rfl) (pa_cons (pv 0) (pa_cons pe_int pa_nil))) pa_nil)) (pg_name (i := 5) scLBlock.nd rfl (by first | exact Or.inl rfl | exact Or.inr rfl)) (pss_one (ps_if (pt_cmpR op_gt (pe_ix ix_list (pv 1) pe_int (fun _ _ => rfl)) pe_int (nomark _)) (pss_one (ps_expr (pe_bm PySem.F.plainAttrs_list PySem.F.slot_list_append PySem.F.type_list_append mt_append (pv 4) (pa_cons (pe_own gLRow (hr.mono (by omega)) (by rfl) (pa_cons (pv 0) (pa_cons (pv 1) (pa_cons (pv 2) (pa_cons (pv 3) pa_nil))))) pa_nil)))) pss_nil)))
      (pss_one (ps_ret (pv 4))))), ?_⟩
  have cp := cRow_pos d
  refine ⟨Nat.zero_le _, fun l nl => ?_⟩
  have p0 : Pr H a u n 0 (upd H l (.lst [])) := (Pr.start hs hu).new nl
  obtain ⟨n1, h1, h2, s1, go1⟩ := p0.draws (c2 := 1)
  refine ⟨_, rfl, a, 5, n1, rfl, s1, by omega, by decide, by decide, fun H1 j f1 sr1 j0 j1 => ?_⟩
  have p1 : Pr H a u n (0 + 1) H1 := go1 f1 sr1 (by omega) (by omega)
  have lan := (Pr.start hs hu).an nl
  refine ⟨j, rfl, by omega, by omega, ?_⟩
  refine for_it (walk_range (lo := 0) (n := j.toNat)) (fun i σ H' => ∃ v5, σ = [some (.ref a), some (.ref u), some (.int d), some (.bl wi), some (.ref l), v5] ∧ Pr H a u n (1 + i * cRow d) H' ∧
      ∃ xs rs, H' l = some (.lst xs) ∧ Paired (RowAt (fun x => H x = none ∧ x ≠ l) lawK H' d) xs rs ∧ rs.length ≤ i ∧ ∀ r ∈ rs, RowO8 d wi r)
    ⟨none, rfl, p1.le (by omega), [], [], f1 _ _ lan.1 upd_same, .nil, by simp, by simp⟩ (fun _ _ _ _ _ => trivial) ?_ ?_
  · rintro i x σ H2 H3 hi ⟨v5, rfl, p2, xs, rs, hl, hr2, hlen, hok⟩ ⟨rfl, rfl⟩
    obtain ⟨n3, c0, c1, g1, g2, s3, u3, go3⟩ := p2.goes (c2 := cRow d)
    have i3 : (i : Int) ≤ 3 := by omega
    have ib : (i : Int) * cRow d ≤ 3 * cRow d := Int.mul_le_mul_of_nonneg_right i3 cp
    have ei : (((i + 1 : Nat) : Int)) * cRow d = i * cRow d + cRow d := by
      rw [show (((i + 1 : Nat) : Int)) = (i : Int) + 1 by omega, Int.add_mul, Int.one_mul]
    refine ⟨_, rfl, u, _, 0, _, rfl, rfl, SqL.of u3, rfl, c0, 0, rfl, rfl, _, rfl, ite2 (fun c => ?_) (fun c => ?_)⟩
    · refine ⟨_, rfl, .inl ⟨rfl, _, SqL.of hl⟩, _, rfl, _, rfl, _, rfl, _, rfl, a, u, wi, n3, c0, c1, rfl, s3, u3, by omega, fun H4 v r p4 hv hrok => ?_⟩
      have lan2 : l ≠ a ∧ l ≠ u := lan
      have hl4 : H4 l = some (.lst xs) := p4.fr _ _ lan2 hl
      have l2 : xs.length ≤ i := by rw [paired_len hr2]; exact hlen
      refine ⟨l, xs, _, rfl, rfl, hl4, small (by omega), ?_⟩
      refine ⟨_, rfl, ?_, xs ++ [v], rs ++ [r], upd_same, ?_, by simp; omega, ?_⟩
      · rw [ei]
        exact (go3 p4).le (by omega) |>.upN nl lan.1 lan.2
      · have keep1 : Keep (fun x => H x = none ∧ x ≠ l) (fun x => H x = none ∧ x ≠ l) H3 (upd H4 l (.lst (xs ++ [v]))) := fun x kd ys k e => by
          refine ⟨k, ?_⟩
          rw [upd_ne k.2]
          exact p4.fr _ _ ((Pr.start hs hu).an k.1) e
        have keep2 : Keep (fun x => H3 x = none) (fun x => H x = none ∧ x ≠ l) H4 (upd H4 l (.lst (xs ++ [v]))) := fun x kd ys k e => by
          have xl : x ≠ l := fun z => by rw [z, hl] at k; cases k
          exact ⟨⟨p2.free k, xl⟩, by rw [upd_ne xl]; exact e⟩
        exact paired_app (hv.to keep2) (paired_imp hr2 fun v r q => q.to keep1)
      · intro r' h'
        rcases List.mem_append.mp h' with h | h
        · exact hok r' h
        · rw [List.mem_singleton.mp h]; exact hrok
    · exact ⟨_, rfl, by rw [ei]; exact p2.le (by omega), xs, rs, hl, hr2, by omega, hok⟩
  · rintro σ H2 ⟨v5, rfl, p2, xs, rs, hl, hr2, hlen, hok⟩
    have i4 : ((j.toNat : Nat) : Int) ≤ 4 := by omega
    have ib : ((j.toNat : Nat) : Int) * cRow d ≤ 4 * cRow d := Int.mul_le_mul_of_nonneg_right i4 cp
    exact ⟨_, rfl, q _ _ rs (p2.le (by omega)) ⟨xs, ⟨l, true, rfl, nl, rfl, hl⟩, paired_imp hr2 fun v r q => q.to (Keep.mono fun x k _ => k.1)⟩ (by omega) hok⟩
end
end Ft
set_option Elab.async false
set_option linter.all false
set_option maxRecDepth 100000
set_option maxHeartbeats 4000000
namespace Ft
open PySem L2
def w12 : List Str := ["load", "pick", "put", "copy", "part", "drop", "say", "tell", "seen", "fail", "make", "call"]
def w3 : List Str := ["when", "try", "make"]
def w14 : List Str := w12 ++ (["when", "try"] : List Str)
theorem w14_plain : ∀ z ∈ w14, z ≠ "make" → z ≠ "when" → z ≠ "try" → ∃ ks, (z, ks) ∈ plainT := by
  have h : ∀ z ∈ w14, (z = "make" || (z = "when" || (z = "try" || plainT.any fun p => decide (p.1 = z)))) = true := by decide +kernel
  intro z hz h1 h2 h3
  have e := h z hz
  simp only [h1, h2, h3, decide_false, Bool.false_or, List.any_eq_true] at e
  obtain ⟨p, hp, e⟩ := e
  have e' : p.1 = z := of_decide_eq_true e
  exact ⟨p.2, by rw [← e']; exact hp⟩
/-- the word may be run at depth d -/
def WOk1 (d : Nat) (z : Str) : Prop := z ∈ w14 ∧ (z = "when" ∨ z = "try" → 0 < d)
def WOk2 (d : Nat) (wi : Bool) (z : Str) : Prop := WOk1 d z ∧ (z = "make" → wi = false ∧ 0 < d) ∧ (z = "call" → wi = false)
theorem w12_ok {d : Nat} {z : Str} (h : z ∈ w12) : WOk1 d z := by
  refine ⟨List.mem_append_left _ h, fun e => ?_⟩
  have : ∀ z ∈ w12, z ≠ "when" ∧ z ≠ "try" := by decide +kernel
  rcases e with e | e
  · exact absurd e (this z h).1
  · exact absurd e (this z h).2
theorem w3_ok {d : Nat} {z : Str} (h : z ∈ w3) (hd : 0 < d) : WOk1 d z := by
  have : ∀ z ∈ w3, z ∈ w14 := by decide +kernel
  exact ⟨this z h, fun _ => hd⟩
theorem cRow8 : ∀ d, 8 ≤ cRow d
  | 0 => by decide
  | d + 1 => by have := cRow_pos d; unfold cRow; omega
section
variable {P : Program} {w : World} {K : PySem.W.Frag} {mg : Str → Option Value} {base : Heap}
abbrev sLRow : Stmt := topS 37
theorem scLRow : FnScope ["_law_source_here", "_law_budget", "_law_deep", "_law_in_make", "_law_some", "_law_word_here", "_law_ahead", "_law_one"] ["_law_source_here", "_law_budget", "_law_deep", "_law_in_make"] (defScope sLRow) := ⟨rfl, rfl, rfl, by decide +kernel, rfl, by decide +kernel, by decide +kernel⟩
theorem ok_LRow {f : Addr} {fd : FuncData} {k d : Nat} {spB : Sp} (F : Fun K "_law_row" "_law_row" sLRow f fd) (B : Bl mg) (hk : 4 ≤ k) (gLDraw : Own P w K mg base 1 "_law_draw" ["_law_source_here", "_law_many"] spLDraw) (gLPick : Own P w K mg base 2 "_law_pick" ["_law_source_here", "_law_some"] spLPick)
    (gLWord : Own P w K mg base 3 "_law_word" ["_law_source_here"] spLWord) (gLPlainRow : Own P w K mg base 4 "_law_plain_row" ["_law_source_here", "_law_word_here"] spLPlainRow)
    (gLBlock : Own P w K mg base k "_law_block" ["_law_source_here", "_law_budget", "_law_deep", "_law_in_make"] spB) (hB : ∀ e, d = e + 1 → spB = spLBlock e) : FnOk P w K mg base CX0 (k + 1) f fd ["_law_source_here", "_law_budget", "_law_deep", "_law_in_make"] (spLRow d) := by
  refine F.ok scLRow (fun vs H Q E h => ?_) (fun cdv A outer s H vs Q E hr h => ?_)
  · obtain ⟨a, u, wi, n, b0, b1, rfl, _⟩ := h
    rfl
  obtain ⟨a, u, wi, n, b0, b1, rfl, hs, hu, hn, q⟩ := h
  refine ⟨_, (pss_cons (ps_asg (pe_op op_sub (pe_ix ix_list (pv 1) pe_int (fun _ _ => rfl)) pe_int) (pg_sub (pv 1) pe_int set_list))
      (pss_cons (ps_set (i := 4) scLRow.nd rfl (by first | exact Or.inl rfl | exact Or.inr rfl) (pe_lst (pa_cons pe_str (pa_cons pe_str (pa_cons pe_str (pa_cons pe_str (pa_cons pe_str (pa_cons pe_str (pa_cons pe_str (pa_cons pe_str (pa_cons pe_str (pa_cons pe_str (pa_cons pe_str (pa_cons pe_str pa_nil))))))))))))))
      (pss_cons (ps_set (i := 5) scLRow.nd rfl (by first | exact Or.inl rfl | exact Or.inr rfl) (pe_own gLPick (hr.mono (by omega)) (by rfl) (pa_cons (pv 0) (pa_cons (pv 4) pa_nil))))
      (pss_cut (ps_if (PW.pt (pw_and (pt_cmpR op_eq (pe_own gLDraw (hr.mono (by omega)) (by rfl) (pa_cons (pv 0) (pa_cons pe_int pa_nil))) pe_int (nomark _)) (pw_and1 (pt_cmpR op_gt (pv 2) pe_int (nomark _))))) (pss_one (ps_set (i := 5) scLRow.nd rfl (by first | exact Or.inl rfl | exact Or.inr rfl) (pe_own gLPick (hr.mono (by omega)) (by rfl) (pa_cons (pv 0) (pa_cons (pe_lst (pa_cons pe_str (pa_cons pe_str (pa_cons pe_str pa_nil)))) pa_nil))))) pss_nil)
      (pss_cut (ps_if (pt_cmpR op_in_seq (pv 5) (pe_tup (pa_cons pe_str (pa_cons pe_str pa_nil))) (by rfl)) (pss_cons (ps_set (i := 5) scLRow.nd rfl (by first | exact Or.inl rfl | exact Or.inr rfl) (pe_ifExp (pt_cmpR op_gt (pe_ix ix_list (pv 1) pe_int (fun _ _ => rfl)) pe_int (nomark _)) (pv 5) pe_str))
      (pss_one (ps_asg (pe_op op_sub (pe_ix ix_list (pv 1) pe_int (fun _ _ => rfl)) (pe_callTy call_int1 (by rfl) B.int (by decide +kernel) (pa_cons (pe_cmpR op_ne (pv 5) pe_str (nomark _)) pa_nil))) (pg_sub (pv 1) pe_int set_list)))) pss_nil)
      (pss_cut (ps_if (PW.pt (pw_or (PW.pt (pw_and (pt_val (pv 3)) (pw_and1 (pt_cmpR op_in_seq (pv 5) (pe_tup (pa_cons pe_str (pa_cons pe_str pa_nil))) (by rfl))))) (pw_or1 (PW.pt (pw_and (pt_cmpR op_eq (pv 5) pe_str (nomark _)) (pw_and1 (pt_cmpR op_eq (pv 2) pe_int (nomark _)))))))) (pss_one (ps_set (i := 5) scLRow.nd rfl (by first | exact Or.inl rfl | exact Or.inr rfl) pe_str)) pss_nil)
      (pss_cons (ps_if (pt_cmpR op_eq (pv 5) pe_str (nomark _)) (pss_one (ps_ret (pe_tup (pa_cons (pv 5) (pa_cons (pe_own gLWord (hr.mono (by omega)) (by rfl) (pa_cons (pv 0) pa_nil)) (pa_cons (pe_own gLBlock (hr.mono (by omega)) (by rfl) (pa_cons (pv 0) (pa_cons (pv 1) (pa_cons (pe_op op_sub (pv 2) pe_int) (pa_cons pe_bl pa_nil))))) pa_nil)))))) pss_nil)
      (pss_cons (ps_if (pt_mid (PW.pt (pw_or (pt_cmpR op_eq (pv 5) pe_str (nomark _)) (pw_or1 (pt_cmpR op_eq (pv 5) pe_str (nomark _)))))) (pss_cut (ps_set (i := 6) scLRow.nd rfl (by first | exact Or.inl rfl | exact Or.inr rfl) (pe_ifExp (pt_cmpR op_eq (pv 5) pe_str (nomark _)) (pe_tup (pa_cons (pv 5) pa_nil)) (pe_tup (pa_cons (pv 5) (pa_cons (pe_own gLWord (hr.mono (by omega)) (by rfl) (pa_cons (pv 0) pa_nil)) pa_nil)))))
      (pss_cons (ps_set (i := 7) scLRow.nd rfl (by first | exact Or.inl rfl | exact Or.inr rfl) (pe_own gLBlock (hr.mono (by omega)) (by rfl) (pa_cons (pv 0) (pa_cons (pv 1) (pa_cons (pe_op op_sub (pv 2) pe_int) (pa_cons (pv 3) pa_nil))))))
      (pss_one (ps_ret (pe_op op_catA (pv 6) (pe_tup (pa_cons (pv 7) (pa_cons (pe_own gLBlock (hr.mono (by omega)) (by rfl) (pa_cons (pv 0) (pa_cons (pv 1) (pa_cons (pe_op op_sub (pv 2) pe_int) (pa_cons (pv 3) pa_nil))))) pa_nil)))))))) pss_nil)
      (pss_one (ps_ret (pe_own gLPlainRow (hr.mono (by omega)) (by rfl) (pa_cons (pv 0) (pa_cons (pv 5) pa_nil))))))))))))), ?_⟩
  have cp := cRow_pos d
  have c8 := cRow8 d
  -- budget[0] = budget[0] - 1
  refine ⟨_, rfl, u, _, 0, _, rfl, rfl, SqL.of hu, rfl, b0, 1, rfl, rfl, _, rfl, u, _, 0, 0, rfl, rfl, hu, rfl, ?_⟩
  have p0 : Pr H a u n 0 (upd H u (.lst [.int (b0 - 1), .int b1])) := (Pr.start hs hu).bud
  generalize hG : upd H u _ = G
  have p0 : Pr H a u n 0 G := by rw [← hG]; exact p0
  -- the word
  refine ⟨(by show 12 ≤ sizeLine; decide), fun l nl => ?_⟩
  obtain ⟨n1, h1, h2, s1, go1⟩ := (p0.new (o := .lst (w12.map V.str)) nl).draws (c2 := 1)
  refine ⟨_, rfl, _, rfl, a, l, w12.map V.str, n1, rfl, s1, by omega, (p0.an nl).1, upd_same, by decide, by decide, fun H1 x f1 sr1 hx => ?_⟩
  obtain ⟨z, hz, rfl⟩ := List.mem_map.mp hx
  have p1 : Pr H a u n (0 + 1) H1 := go1 f1 sr1 (by omega) (by omega)
  -- when, try, make
  refine ⟨fun σ H' => ∃ v4 z, σ = [some (.ref a), some (.ref u), some (.int d), some (.bl wi), v4, some (.str z), none, none] ∧ Pr H a u n 3 H' ∧ WOk1 d z, ?_, ?_⟩
  · obtain ⟨n2, h3, h4, s2, go2⟩ := p1.draws (c2 := 1)
    refine ⟨_, rfl, a, 3, n2, rfl, s2, by omega, by decide, by decide, fun H2 j f2 sr2 j0 j1 => ?_⟩
    have p2 : Pr H a u n (0 + 1 + 1) H2 := go2 f2 sr2 (by omega) (by omega)
    refine ⟨rfl, _, rfl, ite2 (fun c => ?_) (fun c => ?_)⟩
    · refine ⟨_, rfl, _, _, rfl, rfl, _, rfl, ite2 (fun c2 => ?_) (fun c2 => ?_)⟩
      · have d0 : (0 : Int) < (d : Int) := of_decide_eq_true c2
        refine ⟨_, rfl, (by show 3 ≤ sizeLine; decide), fun l2 nl2 => ?_⟩
        obtain ⟨n3, h5, h6, s3, go3⟩ := (p2.new (o := .lst (w3.map V.str)) nl2).draws (c2 := 1)
        refine ⟨a, l2, w3.map V.str, n3, rfl, s3, by omega, (p2.an nl2).1, upd_same, by decide, by decide, fun H3 y f3 sr3 hy => ?_⟩
        obtain ⟨z3, hz3, rfl⟩ := List.mem_map.mp hy
        exact ⟨_, z3, rfl, (go3 f3 sr3 (by omega) (by omega)).le (by omega), w3_ok hz3 (by omega)⟩
      · exact ⟨_, z, rfl, p2.le (by omega), w12_ok hz⟩
    · exact iteF ⟨_, z, rfl, p2.le (by omega), w12_ok hz⟩
  rintro σ H2 ⟨v4, z, rfl, p2, hz⟩
  -- load, pick
  refine ⟨fun σ H' => ∃ v4 z, σ = [some (.ref a), some (.ref u), some (.int d), some (.bl wi), v4, some (.str z), none, none] ∧ Pr H a u n 3 H' ∧ WOk1 d z, ?_, ?_⟩
  · refine ⟨_, rfl, (by show 2 ≤ sizeLine; decide), fun t0 nt => ?_⟩
    refine ⟨t0, _, rfl, .inr (SqT.of upd_same), rfl, rfl, _, rfl, ite2 (fun c => ?_) (fun c => ?_)⟩
    · have p3 := p2.new (o := .tup [.str "load", .str "pick"]) nt
      obtain ⟨n3, c0, c1, g1, g2, s3, u3, go3⟩ := p3.goes (c2 := 0)
      refine ⟨_, rfl, u, _, 1, _, rfl, rfl, SqL.of u3, rfl, c1, 0, rfl, rfl, _, rfl, ite2 (fun e => ?_) (fun e => ?_)⟩
      · refine ⟨_, rfl, ?_⟩
        refine ⟨_, rfl, u, _, 1, _, rfl, rfl, SqL.of u3, rfl, _, rfl, rfl, .inr ⟨_, rfl, c1, _, rfl, rfl, _, rfl, u, _, 1, 1, rfl, rfl, u3, rfl, ?_⟩⟩
        exact ⟨_, z, rfl, p3.bud, hz⟩
      · refine ⟨_, rfl, u, _, 1, _, rfl, rfl, SqL.of u3, rfl, _, rfl, rfl, .inr ⟨_, rfl, c1, _, rfl, rfl, _, rfl, u, _, 1, 1, rfl, rfl, u3, rfl, ?_⟩⟩
        exact ⟨_, "seen", rfl, p3.bud, w12_ok (by decide +kernel)⟩
    · exact ⟨_, z, rfl, p2.new nt, hz⟩
  rintro σ H3 ⟨v4, z, rfl, p3, hz⟩
  -- make, call
  refine ⟨fun σ H' => ∃ v4 z, σ = [some (.ref a), some (.ref u), some (.int d), some (.bl wi), v4, some (.str z), none, none] ∧ Pr H a u n 3 H' ∧ WOk2 d wi z, ?_, ?_⟩
  · have tell : ∀ {H' : Hp}, Pr H a u n 3 H' → ∃ v4' z', [some (V.ref a), some (.ref u), some (.int d), some (.bl wi), v4, some (.str "tell"), none, none] = [some (V.ref a), some (.ref u), some (.int d), some (.bl wi), v4', some (.str z'), none, none] ∧ Pr H a u n 3 H' ∧ WOk2 d wi z' := fun p =>
      ⟨_, "tell", rfl, p, w12_ok (by decide +kernel), fun e => absurd e (by decide), fun e => absurd e (by decide)⟩
    cases wi with
    | false =>
      refine ⟨_, rfl, false, rfl, iteF (iteF ?_)⟩
      refine ⟨_, rfl, rfl, _, rfl, ite2 (fun c => ?_) (fun c => ?_)⟩
      · refine ⟨_, rfl, rfl, _, rfl, ite2 (fun c2 => tell p3) (fun c2 => ?_)⟩
        refine ⟨_, z, rfl, p3, hz, fun _ => ⟨rfl, ?_⟩, fun _ => rfl⟩
        have : ¬ ((d : Nat) : Int) = 0 := fun e => c2 (by rw [e]; exact decide_eq_true rfl)
        omega
      · exact iteF ⟨_, z, rfl, p3, hz, fun e => absurd (by rw [e]; exact decide_eq_true rfl) c, fun _ => rfl⟩
    | true =>
      refine ⟨_, rfl, true, rfl, iteT ?_⟩
      refine ⟨_, rfl, (by show 2 ≤ sizeLine; decide), fun t0 nt => ?_⟩
      refine ⟨t0, (["make", "call"] : List Str).map V.str, rfl, .inr (SqT.of upd_same), rfl, rfl, _, rfl, ite2 (fun c => ?_) (fun c => ?_)⟩
      · first | exact iteT (tell (p3.new nt)) | exact tell (p3.new nt)
      have c' : ¬ z ∈ (["make", "call"] : List Str) := fun e => c (by
        show inV (.str z) ((["make", "call"] : List Str).map V.str) = true
        rw [inV_iff]; exact decide_eq_true e)
      have nm : z ≠ "make" := fun e => c' (by rw [e]; decide +kernel)
      have nc : z ≠ "call" := fun e => c' (by rw [e]; decide +kernel)
      refine ⟨_, rfl, rfl, _, rfl, ite2 (fun c2 => absurd (V.str.inj (of_decide_eq_true c2)) nm) (fun c2 => ?_)⟩
      exact iteF ⟨_, z, rfl, p3.new nt, hz, fun e => absurd e nm, fun e => absurd e nc⟩
  rintro σ H4 ⟨v4, z, rfl, p4, hz⟩
  -- make
  refine ⟨_, rfl, rfl, _, rfl, ite2 (fun c => ?_) (fun c => ?_)⟩
  · have ez : z = "make" := V.str.inj (of_decide_eq_true c)
    subst ez
    obtain ⟨hwi, hd⟩ := hz.2.1 rfl
    subst hwi
    obtain ⟨e, rfl⟩ : ∃ e, d = e + 1 := ⟨d - 1, by omega⟩
    have hB' := hB e rfl
    subst hB'
    have ce := cRow_pos e
    have he : cRow (e + 1) = 10 + 8 * cRow e := rfl
    obtain ⟨n4, h7, h8, s4, go4⟩ := p4.draws (c2 := 1)
    refine ⟨_, rfl, _, rfl, a, n4, rfl, s4, by omega, fun H5 y f5 sr5 hy => ?_⟩
    have p5 : Pr H a u n (3 + 1) H5 := go4 f5 sr5 (by omega) (by omega)
    obtain ⟨n5, c0, c1, g1, g2, s5, u5, go5⟩ := p5.goes (c2 := 1 + 4 * cRow e)
    refine ⟨_, rfl, _, rfl, _, rfl, _, 1, rfl, rfl, a, u, true, n5, c0, c1, by simp, s5, u5, by omega, fun H6 v rs p6 hv hl hrs => ?_⟩
    refine ⟨(by show 3 ≤ sizeLine; decide), fun p np => ?_⟩
    have p7 := go5 p6
    refine q _ _ (.make y rs) ((p7.le (by omega)).new np) ?_ ⟨rfl, hy, by omega, hrs⟩
    obtain ⟨xs, hat, hall⟩ := hv
    have kp : Keep (fun x => H5 x = none) (fun x => H x = none) H6 (upd H6 p (.tup [.str "make", .str y, v])) := (Keep.mono fun x k _ => p5.free k).trans (Keep.new np)
    exact ⟨v, xs, ⟨p, false, rfl, p7.free np, rfl, upd_same⟩, hat.to kp, paired_imp hall fun v r h => h.to kp⟩
  · have nm : z ≠ "make" := fun e => c (by rw [e]; exact decide_eq_true rfl)
    -- when, try
    refine ⟨fun b H' => H4 = H' ∧ b = decide (z = "when" ∨ z = "try"), ?_, ?_⟩
    · refine ⟨_, rfl, rfl, _, rfl, ite2 (fun c1 => ?_) (fun c1 => ?_)⟩
      · have e1 : z = "when" := V.str.inj (of_decide_eq_true c1)
        exact ⟨rfl, by simp [e1]⟩
      · have e1 : ¬ z = "when" := fun e => c1 (by rw [e]; exact decide_eq_true rfl)
        refine ⟨_, rfl, rfl, _, rfl, rfl, ?_⟩
        have : (V.str z = V.str "try") ↔ (z = "when" ∨ z = "try") := ⟨fun e => .inr (V.str.inj e), fun e => by rw [e.resolve_left e1]⟩
        exact decide_eq_decide.mpr this
    rintro b _ ⟨rfl, rfl⟩
    refine ite2 (fun c2 => ?_) (fun c2 => ?_)
    · have hw2 : z = "when" ∨ z = "try" := of_decide_eq_true c2
      have hd := hz.1.2 hw2
      obtain ⟨e, rfl⟩ : ∃ e, d = e + 1 := ⟨d - 1, by omega⟩
      have hB' := hB e rfl
      subst hB'
      have ce := cRow_pos e
      have he : cRow (e + 1) = 10 + 8 * cRow e := rfl
      refine ⟨fun σ H' => ∃ p pre, σ = [some (.ref a), some (.ref u), some (.int (e + 1 : Nat)), some (.bl wi), v4, some (.str z), some (.ref p), none] ∧ Pr H a u n 4 H' ∧ H p = none ∧ H' p = some (.tup pre) ∧
        ((z = "try" ∧ pre = [.str "try"]) ∨ ∃ y, z = "when" ∧ isW y = true ∧ pre = [.str "when", .str y]), ?_, ?_⟩
      · refine ⟨_, rfl, rfl, _, rfl, ite2 (fun c3 => ?_) (fun c3 => ?_)⟩
        · have ez : z = "try" := V.str.inj (of_decide_eq_true c3)
          subst ez
          refine ⟨_, rfl, (by show 1 ≤ sizeLine; decide), fun p np => ?_⟩
          exact ⟨p, _, rfl, (p4.le (by omega)).new np, p4.free np, upd_same, .inl ⟨rfl, rfl⟩⟩
        · have ez : z = "when" := hw2.resolve_right fun e => c3 (by rw [e]; exact decide_eq_true rfl)
          subst ez
          obtain ⟨n4, h7, h8, s4, go4⟩ := p4.draws (c2 := 1)
          refine ⟨_, rfl, _, rfl, a, n4, rfl, s4, by omega, fun H5 y f5 sr5 hy => ?_⟩
          have p5 : Pr H a u n (3 + 1) H5 := go4 f5 sr5 (by omega) (by omega)
          refine ⟨(by show 2 ≤ sizeLine; decide), fun p np => ?_⟩
          exact ⟨p, _, rfl, (p5.le (by omega)).new np, p5.free np, upd_same, .inr ⟨y, rfl, hy, rfl⟩⟩
      rintro σ H5 ⟨p, pre, rfl, p5, npH, hp, hpre⟩
      obtain ⟨n5, c0, c1, g1, g2, s5, u5, go5⟩ := p5.goes (c2 := 1 + 4 * cRow e)
      refine ⟨_, rfl, _, rfl, _, rfl, _, 1, rfl, rfl, _, rfl, a, u, wi, n5, c0, c1, by simp, s5, u5, by omega, fun H6 v1 rs1 p6 hv1 hl1 hrs1 => ?_⟩
      have p7 := go5 p6
      obtain ⟨n7, c2', c3', g3, g4, s7, u7, go7⟩ := p7.goes (c2 := 1 + 4 * cRow e)
      refine ⟨_, rfl, _, rfl, _, rfl, _, rfl, _, rfl, _, 1, rfl, rfl, _, rfl, a, u, wi, n7, c2', c3', by simp, s7, u7, by omega, fun H8 v2 rs2 p8 hv2 hl2 hrs2 => ?_⟩
      have p9 := go7 p8
      refine ⟨(by show 2 ≤ sizeLine; decide), fun t1 nt1 => ?_⟩
      have pau : p ≠ a ∧ p ≠ u := (Pr.start hs hu).an npH
      have hp8 : H8 p = some (.tup pre) := p8.fr _ _ pau (p6.fr _ _ pau hp)
      have hp9 : (upd H8 t1 (.tup [v1, v2])) p = some (.tup pre) := by rw [upd_ne (ne_of_none hp8 nt1)]; exact hp8
      have lp : pre.length ≤ 2 := by
        rcases hpre with ⟨_, e⟩ | ⟨y, _, _, e⟩ <;> rw [e] <;> simp
      have fin : ∀ t2, (upd H8 t1 (.tup [v1, v2])) t2 = none → Q (.ref t2) (upd (upd H8 t1 (.tup [v1, v2])) t2 (.tup (pre ++ [v1, v2]))) := fun t2 nt2 => by
        have pA := (p9.new (o := .tup [v1, v2]) nt1)
        have pB := pA.new (o := .tup (pre ++ [v1, v2])) nt2
        obtain ⟨xs1, hat1, hall1⟩ := hv1
        obtain ⟨xs2, hat2, hall2⟩ := hv2
        have k1 : Keep (fun x => H5 x = none) (fun x => H x = none) H6 (upd (upd H8 t1 (.tup [v1, v2])) t2 (.tup (pre ++ [v1, v2]))) :=
          ((Keep.mono (o2 := fun x => H x = none) fun x k _ => p5.free k).trans (Keep.fr ((p8.fr.mono fun x k => (Pr.start hs hu).an k).trans ((Fr.new nt1).trans (Fr.new nt2))) fun x k => k))
        have k2 : Keep (fun x => H6 x = none) (fun x => H x = none) H8 (upd (upd H8 t1 (.tup [v1, v2])) t2 (.tup (pre ++ [v1, v2]))) :=
          ((Keep.mono (o2 := fun x => H x = none) fun x k _ => p7.free k).trans (Keep.fr ((Fr.new nt1).trans (Fr.new nt2)) fun x k => k))
        have top : At (fun x => H x = none) (lawK false) (upd (upd H8 t1 (.tup [v1, v2])) t2 (.tup (pre ++ [v1, v2]))) (.ref t2) (pre ++ [v1, v2]) := ⟨t2, false, rfl, pA.free nt2, rfl, upd_same⟩
        rcases hpre with ⟨_, e⟩ | ⟨y, _, hy, e⟩
        · subst e
          exact q _ _ (.try_ rs1 rs2) (pB.le (by omega)) ⟨v1, xs1, v2, xs2, top, hat1.to k1, paired_imp hall1 fun v r h => h.to k1, hat2.to k2, paired_imp hall2 fun v r h => h.to k2⟩ ⟨by omega, by omega, hrs1, hrs2⟩
        · subst e
          exact q _ _ (.when y rs1 rs2) (pB.le (by omega)) ⟨v1, xs1, v2, xs2, top, hat1.to k1, paired_imp hall1 fun v r h => h.to k1, hat2.to k2, paired_imp hall2 fun v r h => h.to k2⟩ ⟨hy, by omega, by omega, hrs1, hrs2⟩
      have pn : pre ≠ [] := by
        rcases hpre with ⟨_, e⟩ | ⟨y, _, _, e⟩ <;> rw [e] <;> simp
      exact ⟨p, t1, pre, [v1, v2], rfl, rfl, SqT.of hp9, SqT.of upd_same, smallE (by simp; omega), fun e => absurd e pn, fun _ e => absurd e (by simp), fun _ _ => fin⟩
    · -- a plain row
      have nw : z ≠ "when" ∧ z ≠ "try" := ⟨fun e => c2 (by simp [e]), fun e => c2 (by simp [e])⟩
      obtain ⟨ks, hks⟩ := w14_plain z hz.1.1 nm nw.1 nw.2
      obtain ⟨n4, h7, h8, s4, go4⟩ := p4.draws (c2 := 4)
      refine ⟨_, rfl, _, rfl, a, n4, z, ks, rfl, s4, by omega, hks, fun H5 p fs n5 f5 sr5 l1 l2 np hp hfs => ?_⟩
      have p5 : Pr H a u n (3 + 4) H5 := go4 f5 sr5 (by omega) (by omega)
      refine q _ _ (.plain z fs) (p5.le (by omega)) ?_ ?_
      · have : At (fun x => H x = none) (lawK false) H5 (.ref p) (.str z :: fs) := ⟨p, false, rfl, p4.free np, rfl, hp⟩
        cases d <;> exact this
      · have : plainOk wi z fs := ⟨ks, hks, hfs, fun e1 e2 => by rw [hz.2.2 e2] at e1; cases e1⟩
        cases d <;> exact this
theorem rows_ok {fR fB : Addr} {fdR fdB : FuncData} (FR : Fun K "_law_row" "_law_row" sLRow fR fdR) (FB : Fun K "_law_block" "_law_block" sLBlock fB fdB) (B : Bl mg)
    (mR : mg "_law_row" = some (.ref fR)) (mB : mg "_law_block" = some (.ref fB)) (bR : Binds K fdR ["_law_source_here", "_law_budget", "_law_deep", "_law_in_make"] []) (bB : Binds K fdB ["_law_source_here", "_law_budget", "_law_deep", "_law_in_make"] [])
    (gLDraw : Own P w K mg base 1 "_law_draw" ["_law_source_here", "_law_many"] spLDraw) (gLPick : Own P w K mg base 2 "_law_pick" ["_law_source_here", "_law_some"] spLPick)
    (gLWord : Own P w K mg base 3 "_law_word" ["_law_source_here"] spLWord) (gLPlainRow : Own P w K mg base 4 "_law_plain_row" ["_law_source_here", "_law_word_here"] spLPlainRow) :
    ∀ d : Nat, Own P w K mg base (5 + 2 * d) "_law_row" ["_law_source_here", "_law_budget", "_law_deep", "_law_in_make"] (spLRow d) ∧ Own P w K mg base (6 + 2 * d) "_law_block" ["_law_source_here", "_law_budget", "_law_deep", "_law_in_make"] (spLBlock d)
  | 0 => by
    have r0 : Own P w K mg base 5 "_law_row" ["_law_source_here", "_law_budget", "_law_deep", "_law_in_make"] (spLRow 0) := own_mk FR mR bR (ok_LRow (k := 4) FR B (by omega) gLDraw gLPick gLWord gLPlainRow (own_mk FB mB bB fn_false) (fun e h => absurd h (by omega)))
    exact ⟨r0, own_mk FB mB bB (ok_LBlock FB B (by omega) gLDraw r0)⟩
  | d + 1 => by
    obtain ⟨_, ihB⟩ := rows_ok FR FB B mR mB bR bB gLDraw gLPick gLWord gLPlainRow d
    have r1 : Own P w K mg base (6 + 2 * d + 1) "_law_row" ["_law_source_here", "_law_budget", "_law_deep", "_law_in_make"] (spLRow (d + 1)) := own_mk FR mR bR (ok_LRow FR B (by omega) gLDraw gLPick gLWord gLPlainRow ihB (fun e h => by
      have : d = e := by omega
      rw [this]))
    refine ⟨r1.mono (by omega), (own_mk FB mB bB (ok_LBlock FB B (by omega) gLDraw r1)).mono (by omega)⟩
end
end Ft
set_option Elab.async false
set_option linter.all false
set_option maxRecDepth 100000
set_option maxHeartbeats 4000000
namespace Ft
open PySem L2
section
variable {P : Program} {w : World} {K : PySem.W.Frag} {mg : Str → Option Value} {base : Heap}
abbrev sLLibrary : Stmt := topS 39
theorem scLLibrary : FnScope ["_law_source_here", "_law_found", "_law_budget", "_law_k", "_law_rows", "_law_j"] ["_law_source_here"] (defScope sLLibrary) := ⟨rfl, rfl, rfl, by decide +kernel, rfl, by decide +kernel, by decide +kernel⟩
def cMod : Int := 2 + 8 * cRow 3
def spLLibrary : Sp := fun vs H Q _ => ∃ (a : Addr) (n : Int), vs = [.ref a] ∧ Src H a n ∧ n < 2 ^ 30 ∧
  ∀ H' p kvs lib n', Fr (· ≠ a) H H' → Src H' a n' → n ≤ n' → n' ≤ n + 200000 → H p = none → H' p = some (.dK kvs) → LibAt (fun x => H x = none ∧ x ≠ p) lawK H' kvs lib → 0 < lib.length → LibOk lib → Q (.ref p) H'
theorem ok_LLibrary {f : Addr} {fd : FuncData} {k : Nat} (F : Fun K "_law_library" "_law_library" sLLibrary f fd) (B : Bl mg) (hk : 11 ≤ k) (gLDraw : Own P w K mg base 1 "_law_draw" ["_law_source_here", "_law_many"] spLDraw)
    (gLWord : Own P w K mg base 3 "_law_word" ["_law_source_here"] spLWord) (gLRow : Own P w K mg base 11 "_law_row" ["_law_source_here", "_law_budget", "_law_deep", "_law_in_make"] (spLRow 3)) : FnOk P w K mg base CX0 (k + 1) f fd ["_law_source_here"] spLLibrary := by
  refine F.ok scLLibrary (fun vs H Q E h => ?_) (fun cdv A outer s H vs Q E hr h => ?_)
  · obtain ⟨a, n, rfl, _⟩ := h
    rfl
  obtain ⟨a, n, rfl, hs, hn, q⟩ := h
  refine ⟨_, (pss_cons (ps_par (i := 1) (j := 2) (by rfl) scLLibrary.nd rfl rfl (by decide) rfl rfl (pa_cons pe_dnewK (pa_cons (pe_lst (pa_cons pe_int (pa_cons pe_int pa_nil))) pa_nil)) (by rfl))
      (pss_cons (ps_for PassesOwn.never rfl (pi_range1 (by rfl) B.range (pa_cons (pe_op op_add pe_int (pe_own gLDraw (hr.mono (by omega)) (by rfl) (pa_cons (pv 0) (pa_cons pe_int pa_nil)))) pa_nil)) (pg_name (i := 3) scLLibrary.nd rfl (by first | exact Or.inl rfl | exact Or.inr rfl)) (pss_cons (ps_set (i := 4) scLLibrary.nd rfl (by first | exact Or.inl rfl | exact Or.inr rfl) (pe_lst pa_nil))
      (pss_cons (ps_for PassesOwn.never rfl (pi_range1 (by rfl) B.range (pa_cons (pe_own gLDraw (hr.mono (by omega)) (by rfl) (pa_cons (pv 0) (pa_cons pe_int pa_nil))) pa_nil)) (pg_name (i := 5) scLLibrary.nd rfl (by first | exact Or.inl rfl | exact Or.inr rfl)) (pss_one (ps_if (pt_cmpR op_gt (pe_ix ix_list (pv 2) pe_int (fun _ _ => rfl)) pe_int (nomark _)) (pss_one (ps_expr (pe_bm PySem.F.plainAttrs_list PySem.F.slot_list_append PySem.F.type_list_append mt_append (pv 4) (pa_cons (pe_own gLRow (hr.mono (by omega)) (by rfl) (pa_cons (pv 0) (pa_cons (pv 2) (pa_cons pe_int (pa_cons pe_bl pa_nil))))) pa_nil)))) pss_nil)))
      (pss_one (ps_dput (hu_of hr) (pv 1) (pe_own gLWord (hr.mono (by omega)) (by rfl) (pa_cons (pv 0) pa_nil)) (pv 4) rfl)))))
      (pss_one (ps_ret (pv 1))))), ?_⟩
  have c3 : cRow 3 = 4826 := by decide
  refine fun dd nd => ⟨(by show 2 ≤ sizeLine; decide), fun u nu => ⟨_, _, rfl, ?_⟩⟩
  have du : u ≠ dd := fun e => by rw [e, upd_same] at nu; cases nu
  have nuH : H u = none := by rw [upd_ne du] at nu; exact nu
  -- the heap without the dict
  have s1 : Src (upd H u (.lst [.int 24, .int 6])) a n := hs.new nuH
  have nd1 : (upd H u (.lst [.int 24, .int 6])) dd = none := by rw [upd_ne du.symm]; exact nd
  have fr0 : Fr (fun _ => True) H (upd H u (.lst [.int 24, .int 6])) := Fr.new nuH
  generalize hG : upd (upd H dd _) u _ = G
  have pG : Pr (upd H u (.lst [.int 24, .int 6])) a u n 0 G := by
    rw [← hG]
    refine ⟨fun x o kx e => ?_, n, 24, 6, by omega, by omega, (hs.new nd).new (by rw [upd_ne du]; exact nuH), upd_same⟩
    rw [upd_ne kx.2] at e ⊢
    rw [upd_ne (ne_of_none e nd)]; exact e
  have dG : G dd = some (.dK []) := by rw [← hG, upd_ne du.symm]; exact upd_same
  have u1 : (upd H u (.lst [.int 24, .int 6])) u = some (.lst [.int 24, .int 6]) := upd_same
  have nfree : ∀ {x}, (upd H u (.lst [.int 24, .int 6])) x = none → H x = none := fun {x} e => by
    by_cases c : x = u
    · rw [c, upd_same] at e; cases e
    · rw [upd_ne c] at e; exact e
  generalize upd H u (.lst [.int 24, .int 6]) = H1 at s1 nd1 fr0 pG u1 nfree
  -- how many modules
  obtain ⟨n1, h1, h2, sr1, go1⟩ := pG.draws (c2 := 1)
  refine ⟨_, rfl, a, 4, n1, rfl, sr1, by omega, by decide, by decide, fun H2 j f2 sr2 j0 j1 => ⟨1, j, rfl, rfl, 1 + j, rfl, by omega, by omega, ?_⟩⟩
  have p2 : Pr H1 a u n (0 + 1) H2 := go1 f2 sr2 (by omega) (by omega)
  have ad : dd ≠ a := (s1.nn nd1)
  have dan : dd ≠ a ∧ dd ≠ u := (Pr.start s1 u1).an nd1
  refine for_it (walk_range (lo := 0) (n := (1 + j).toNat)) (fun i σ H' => ∃ v3 v4 v5, σ = [some (.ref a), some (.ref dd), some (.ref u), v3, v4, v5] ∧ Pr H1 a u n (1 + i * cMod) H' ∧
      ∃ kvs lib, H' dd = some (.dK kvs) ∧ LibAt (fun x => H1 x = none ∧ x ≠ dd) lawK H' kvs lib ∧ lib.length ≤ i ∧ (0 < i → 0 < lib.length) ∧ (lib.map (·.1)).Nodup ∧ ∀ m ∈ lib, isW m.1 = true ∧ m.2.length ≤ 8 ∧ ∀ r ∈ m.2, RowO8 3 false r)
    ⟨none, none, none, rfl, p2.le (by omega), [], [], f2 _ _ ad dG, .nil, by simp, by simp, by simp, by simp⟩ (fun _ _ _ _ _ => trivial) ?_ ?_
  · rintro i x σ H3 H4 hi ⟨v3, v4, v5, rfl, p4, kvs, lib, hd, hlib, hlen, hpos, hnd, hall⟩ ⟨rfl, rfl⟩
    have i3 : (i : Int) ≤ 3 := by omega
    have ib : (i : Int) * cMod ≤ 3 * cMod := Int.mul_le_mul_of_nonneg_right i3 (by decide)
    have cm : cMod = 38610 := by decide
    have ei : (((i + 1 : Nat) : Int)) * cMod = i * cMod + cMod := by
      rw [show (((i + 1 : Nat) : Int)) = (i : Int) + 1 by omega, Int.add_mul, Int.one_mul]
    refine ⟨Nat.zero_le _, fun l nl => ?_⟩
    have nlH : H1 l = none := p4.free nl
    have lan : l ≠ a ∧ l ≠ u := p4.an nl
    have ld : l ≠ dd := fun e => by rw [e, hd] at nl; cases nl
    have p5 : Pr H1 a u n (1 + i * cMod) (upd H4 l (.lst [])) := p4.new nl
    obtain ⟨n5, h5, h6, sr5, go5⟩ := p5.draws (c2 := 1)
    refine ⟨_, rfl, a, 9, n5, rfl, sr5, by omega, by decide, by decide, fun H6 jj f6 sr6 jj0 jj1 => ⟨jj, rfl, by omega, by omega, ?_⟩⟩
    have p6 : Pr H1 a u n (1 + i * cMod + 1) H6 := go5 f6 sr6 (by omega) (by omega)
    have hd5 : (upd H4 l (.lst [])) dd = some (.dK kvs) := by rw [upd_ne ld.symm]; exact hd
    have keep6 : Keep (fun x => H1 x = none ∧ x ≠ dd) (fun x => H1 x = none ∧ x ≠ dd ∧ x ≠ l) H4 H6 := fun x kd ys k e => by
      have xl : x ≠ l := fun z => by rw [z, nl] at e; cases e
      refine ⟨⟨k.1, k.2, xl⟩, f6 _ _ ((Pr.start s1 u1).an k.1).1 ?_⟩
      rw [upd_ne xl]; exact e
    refine for_it (walk_range (lo := 0) (n := jj.toNat)) (fun i2 σ H' => ∃ v5, σ = [some (.ref a), some (.ref dd), some (.ref u), some (.int (0 + i)), some (.ref l), v5] ∧ Pr H1 a u n (1 + i * cMod + 1 + i2 * cRow 3) H' ∧
        H' dd = some (.dK kvs) ∧ LibAt (fun x => H1 x = none ∧ x ≠ dd ∧ x ≠ l) lawK H' kvs lib ∧
        ∃ xs rs, H' l = some (.lst xs) ∧ Paired (RowAt (fun x => H1 x = none ∧ x ≠ dd ∧ x ≠ l) lawK H' 3) xs rs ∧ rs.length ≤ i2 ∧ ∀ r ∈ rs, RowO8 3 false r)
      ⟨_, rfl, p6.le (by omega), f6 _ _ ad hd5, hlib.to keep6, [], [], f6 _ _ lan.1 upd_same, .nil, by simp, by simp⟩ (fun _ _ _ _ _ => trivial) ?_ ?_
    · rintro i2 x σ H7 H8 hi2 ⟨v5', rfl, p8, hd8, hlib8, xs, rs, hl8, hrs, hlen8, hok8⟩ ⟨rfl, rfl⟩
      obtain ⟨n8, c0, c1, g1, g2, s8, u8, go8⟩ := p8.goes (c2 := cRow 3)
      have i27 : (i2 : Int) ≤ 7 := by omega
      have ib2 : (i2 : Int) * cRow 3 ≤ 7 * cRow 3 := Int.mul_le_mul_of_nonneg_right i27 (by decide)
      have ei2 : (((i2 + 1 : Nat) : Int)) * cRow 3 = i2 * cRow 3 + cRow 3 := by
        rw [show (((i2 + 1 : Nat) : Int)) = (i2 : Int) + 1 by omega, Int.add_mul, Int.one_mul]
      refine ⟨_, rfl, u, _, 0, _, rfl, rfl, SqL.of u8, rfl, c0, 0, rfl, rfl, _, rfl, ite2 (fun c => ?_) (fun c => ?_)⟩
      · refine ⟨_, rfl, .inl ⟨rfl, _, SqL.of hl8⟩, _, rfl, _, rfl, a, u, false, n8, c0, c1, rfl, s8, u8, by omega, fun H9 v r p9 hv hrok => ?_⟩
        have hl9 : H9 l = some (.lst xs) := p9.fr _ _ lan hl8
        have l2 : xs.length ≤ i2 := by rw [paired_len hrs]; exact hlen8
        have keep1 : Keep (fun x => H1 x = none ∧ x ≠ dd ∧ x ≠ l) (fun x => H1 x = none ∧ x ≠ dd ∧ x ≠ l) H8 (upd H9 l (.lst (xs ++ [v]))) := fun x kd ys k e => by
          refine ⟨k, ?_⟩
          rw [upd_ne k.2.2]
          exact p9.fr _ _ ((Pr.start s1 u1).an k.1) e
        have keep2 : Keep (fun x => H8 x = none) (fun x => H1 x = none ∧ x ≠ dd ∧ x ≠ l) H9 (upd H9 l (.lst (xs ++ [v]))) := fun x kd ys k e => by
          have xl : x ≠ l := fun z => by rw [z, hl8] at k; cases k
          have xd : x ≠ dd := fun z => by rw [z, hd8] at k; cases k
          exact ⟨⟨p8.free k, xd, xl⟩, by rw [upd_ne xl]; exact e⟩
        refine ⟨l, xs, _, rfl, rfl, hl9, small (by omega), _, rfl, ?_, ?_, hlib8.to keep1, xs ++ [v], rs ++ [r], upd_same, ?_, by simp; omega, ?_⟩
        · rw [ei2]
          exact (go8 p9).le (by omega) |>.upN nlH lan.1 lan.2
        · rw [upd_ne ld.symm]
          exact p9.fr _ _ dan hd8
        · exact paired_app (hv.to keep2) (paired_imp hrs fun v r q => q.to keep1)
        · intro r' h'
          rcases List.mem_append.mp h' with h | h
          · exact hok8 r' h
          · rw [List.mem_singleton.mp h]; exact hrok
      · exact ⟨_, rfl, by rw [ei2]; exact p8.le (by omega), hd8, hlib8, xs, rs, hl8, hrs, by omega, hok8⟩
    · rintro σ H7 ⟨v5', rfl, p7, hd7, hlib7, xs, rs, hl7, hrs, hlen7, hok7⟩
      have jb2 : ((jj.toNat : Nat) : Int) ≤ 8 := by omega
      have ib2 : ((jj.toNat : Nat) : Int) * cRow 3 ≤ 8 * cRow 3 := Int.mul_le_mul_of_nonneg_right jb2 (by decide)
      obtain ⟨n7, h7, h8, sr7, go7⟩ := p7.draws (c2 := 1)
      refine ⟨_, rfl, _, rfl, _, rfl, a, n7, rfl, sr7, by omega, fun H8 z f8 sr8 hz => ?_⟩
      have p8 : Pr H1 a u n (1 + i * cMod + 1 + ((jj.toNat : Nat) : Int) * cRow 3 + 1) H8 := go7 f8 sr8 (by omega) (by omega)
      have hd8 : H8 dd = some (.dK kvs) := f8 _ _ ad hd7
      have lk : kvs.length ≤ 3 := by rw [libAt_len hlib7]; omega
      refine ⟨dd, _, rfl, DPut.k (k := Sum.inr z) hd8 (small (by omega)), ?_⟩
      have keep8 : Keep (fun x => H1 x = none ∧ x ≠ dd ∧ x ≠ l) (fun x => H1 x = none ∧ x ≠ dd) H7 (upd H8 dd (.dK (putK kvs (Sum.inr z) (.ref l)))) := fun x kd ys k e => by
        refine ⟨⟨k.1, k.2.1⟩, ?_⟩
        rw [upd_ne k.2.1]
        exact f8 _ _ ((Pr.start s1 u1).an k.1).1 e
      have rl : RowsAt (fun x => H1 x = none ∧ x ≠ dd) lawK (upd H8 dd (.dK (putK kvs (Sum.inr z) (.ref l)))) 3 (.ref l) rs :=
        ⟨xs, ⟨l, true, rfl, ⟨nlH, ld⟩, rfl, by rw [upd_ne ld]; exact f8 _ _ lan.1 hl7⟩, paired_imp hrs fun v r q => q.to keep8⟩
      have pl := putL_len lib z rs
      refine ⟨_, _, _, rfl, ?_, _, putL lib z rs, upd_same, libAt_put (hlib7.to keep8) rl, by omega, fun _ => pl.2.2, putL_nd hnd, fun m hm => ?_⟩
      · rw [ei]
        exact (p8.le (by omega)).upN nd1 dan.1 dan.2
      · rcases putL_mem hm with e | hm
        · rw [e]; exact ⟨hz, by show rs.length ≤ 8; omega, hok7⟩
        · exact hall m hm
  · rintro σ H3 ⟨v3, v4, v5, rfl, p3, kvs, lib, hd, hlib, hlen, hpos, hnd, hall⟩
    have jb : (((1 + j).toNat : Nat) : Int) ≤ 4 := by omega
    have ib : (((1 + j).toNat : Nat) : Int) * cMod ≤ 4 * cMod := Int.mul_le_mul_of_nonneg_right jb (by decide)
    have cm : cMod = 38610 := by decide
    obtain ⟨f3, n3, b0, b1, l1, l2, sr3, u3⟩ := id p3
    refine ⟨_, rfl, q _ dd kvs lib n3 (fun x o kx e => ?_) sr3 l1 (by omega) nd hd (hlib.to (Keep.mono fun x k _ => ⟨nfree k.1, k.2⟩)) (hpos (by omega)) ⟨by omega, hnd, fun m hm => (hall m hm).1, fun m hm => Nat.le_trans (hall m hm).2.1 (by decide), fun m hm => (hall m hm).2.2, rows_tot (by omega) fun m hm => (hall m hm).2.1⟩⟩
    exact f3 _ _ ⟨kx, ne_of_none e nuH⟩ (fr0 _ _ trivial e)
end
end Ft
set_option Elab.async false
set_option linter.all false
set_option maxRecDepth 100000
set_option maxHeartbeats 4000000
set_option Elab.async false
set_option linter.all false
set_option maxRecDepth 100000
set_option maxHeartbeats 4000000
set_option Elab.async false
set_option linter.all false
set_option maxRecDepth 100000
set_option maxHeartbeats 1000000
set_option pp.maxSteps 3000
set_option pp.deepTerms.threshold 8
namespace Ft
open PySem L2 TL
theorem MAt.setAt {H : Hp} {m l : Addr} {L : List Str} {i : Nat} {b : Bool} (h : MAt H m l L i b) (j : Nat) : DPut H m (.str "at") (.int j) (upd H m (.dK [(Sum.inr "lines", .ref l), (Sum.inr "at", .int j), (Sum.inr "bad", .bl b)])) :=
  DPut.k (k := Sum.inr "at") h.m (by show 3 < sizeLine; decide)
theorem MAt.setBad {H : Hp} {m l : Addr} {L : List Str} {i : Nat} {b : Bool} (h : MAt H m l L i b) (c : Bool) : DPut H m (.str "bad") (.bl c) (upd H m (.dK [(Sum.inr "lines", .ref l), (Sum.inr "at", .int i), (Sum.inr "bad", .bl c)])) :=
  DPut.k (k := Sum.inr "bad") h.m (by show 3 < sizeLine; decide)
theorem MAt.ne {H : Hp} {m l : Addr} {L : List Str} {i : Nat} {b : Bool} (h : MAt H m l L i b) : l ≠ m := fun e => by
  have := h.l
  rw [e, h.m] at this
  cases this
theorem MAt.put {H : Hp} {m l : Addr} {L : List Str} {i j : Nat} {b c : Bool} (h : MAt H m l L i b) : MAt (upd H m (.dK [(Sum.inr "lines", .ref l), (Sum.inr "at", .int j), (Sum.inr "bad", .bl c)])) m l L j c :=
  ⟨upd_same, by rw [upd_ne h.ne]; exact h.l⟩
theorem MAt.fr {H H' : Hp} {ok : Addr → Prop} {m l : Addr} {L : List Str} {i : Nat} {b : Bool} (h : MAt H m l L i b) (f : Fr ok H H') (hm : ok m) (hl : ok l) : MAt H' m l L i b := ⟨f _ _ hm h.m, f _ _ hl h.l⟩
theorem MAt.same {H H' : Hp} {m l : Addr} {L : List Str} {i : Nat} {b : Bool} (h : MAt H m l L i b) (f : Same H H') : MAt H' m l L i b := ⟨f _ _ h.m, f _ _ h.l⟩
theorem lRows_lt {L : List Str} : ∀ {d n a c : Nat} {rs : List Row}, LRows L d n a rs c → a < c
  | 0, _, _, _, _, h => h.elim
  | d + 1, n, a, c, rs, h => by
    rcases h with ⟨_, _, e⟩ | ⟨_, r, rest, a1, e0, h1, h2⟩
    · omega
    · have k1 := rdRow_lt (fun _ _ _ h => lRows_lt h) h1
      have k2 : a1 ≤ c := by
        clear h1 k1 e0
        induction h2 with
        | stop => exact Nat.le_refl _
        | step h1 _ ih => have := rdRow_lt (fun _ _ _ h => lRows_lt h) h1; omega
      omega
theorem lRowsB_lt {L : List Str} : ∀ {d n a e : Nat}, LRowsB L d n a e → a < e
  | 0, _, _, _, h => h.elim
  | d + 1, n, a, e, h => by
    have blk : ∀ {j m a e}, BlksE (LRows L d (n + 1)) (LRowsB L d (n + 1)) L n j m a e → a < e := fun {j m a e} h => by
      induction h with
      | els => omega
      | @here j m a a1 e c1 c2 h1 =>
        have := lRowsB_lt h1
        by_cases hj : j = 1
        · have := (c1 hj).2; omega
        · have := c2 hj; omega
      | @later j m a a1 a2 e b c1 c2 h1 _ ih =>
        have := lRows_lt h1
        by_cases hj : j = 1
        · have := (c1 hj).2; omega
        · have := c2 hj; omega
    obtain ⟨hno, ⟨_, e1⟩ | h⟩ := h
    · omega
    · clear hno
      induction h with
      | here h =>
        obtain ⟨z, w, fs, ps, _, _, hb⟩ := h
        have := blk hb
        omega
      | later h1 _ ih =>
        have := rdRow_lt (fun _ _ _ h => lRows_lt h) h1
        omega
theorem form_count {w : Str} {fs : List Str} (h : fieldsOf w = some fs) : Txt.count (sgS fs) ("b" : Str) = ((nbF fs : Nat) : Int) := by
  have all : ∀ p ∈ fieldsT, Txt.count (sgS p.2) ("b" : Str) = ((nbF p.2 : Nat) : Int) := by decide +kernel
  exact all _ (fieldsOf_some h)
/-- a row out of its head and its blocks -/
theorem mkRow_atK {ok : Addr → Prop} {kk : Bool → Bool → Prop} {H : Hp} {d n : Nat} {z w0 : Str} {fs ps : List Str} {rv : V} {zs : List V} {done : List (List Row)} (hd : HeadRd n z w0 fs ps) (at_ : At ok (kk false) H rv (.str w0 :: valsF fs ps ++ zs))
    (hz : Paired (fun v b => ∃ e, d = e + 1 ∧ RowsAt ok kk H e v b) zs done) (hl : done.length = nbF fs) : RowAt ok kk H d rv (mkRowP w0 (valsF fs ps) done) := by
  have hfs := fieldsOf_some hd.fd
  have hlen := hd.len
  cases hz with
  | nil =>
    rw [List.append_nil] at at_
    cases d <;> exact at_
  | @cons v b zs bs h1 ht =>
    obtain ⟨e, rfl, xs, hv, hp⟩ := h1
    cases ht with
    | nil =>
      have e1 := nb_one _ hfs hl.symm
      have ew : w0 = "make" := congrArg Prod.fst e1
      have ef : fs = [("word" : Str), "block"] := congrArg Prod.snd e1
      subst ew
      subst ef
      have l1 : ps.length = 1 := hlen
      match ps, l1 with
      | [a], _ => exact ⟨v, xs, at_, hv, hp⟩
    | @cons v2 b2 zs2 bs2 h2 ht2 =>
      obtain ⟨e2, ee, xs2, hv2, hp2⟩ := h2
      obtain rfl : e = e2 := Nat.succ.inj ee
      cases ht2 with
      | nil =>
        rcases nb_two _ hfs hl.symm with e1 | e1
        · have ew : w0 = "when" := congrArg Prod.fst e1
          have ef : fs = [("word" : Str), "block", "block"] := congrArg Prod.snd e1
          subst ew
          subst ef
          have l1 : ps.length = 1 := hlen
          match ps, l1 with
          | [a], _ => exact ⟨v, xs, v2, xs2, at_, hv, hp, hv2, hp2⟩
        · have ew : w0 = "try" := congrArg Prod.fst e1
          have ef : fs = [("block" : Str), "block"] := congrArg Prod.snd e1
          subst ew
          subst ef
          have l1 : ps.length = 0 := hlen
          match ps, l1 with
          | [], _ => exact ⟨v, xs, v2, xs2, at_, hv, hp, hv2, hp2⟩
      | cons h3 ht3 =>
        have := nb_few _ hfs
        simp only [List.length_cons] at hl
        have h2 : nbF fs ≤ 2 := this
        omega
section
variable (L : List Str) (d n : Nat) (End : List Row → Nat → Prop) (EndB : Nat → Prop)
/-- the rows done, the line at which the next one would stand -/
def ToCome (done : List Row) (a : Nat) : Prop := (∃ rest i2, LMore (RdRow (LRows L d (n + 1)) L n) L n a rest i2 ∧ End (done ++ rest) i2) ∨ ∃ e, LMoreB (RdRow (LRows L d (n + 1)) L n) (LRowB (LRows L d (n + 1)) (LRowsB L d (n + 1)) L n) a e ∧ EndB e
/-- blocks j .. j + m of the row with head w fs ps -/
def BlksCome (done : List Row) (w : Str) (fs ps : List Str) (doneB : List (List Row)) (j m a : Nat) : Prop := (∃ rest a1, RdBlks (LRows L d (n + 1)) L n j m a rest a1 ∧ ToCome L d n End EndB (done ++ [mkRowP w (valsF fs ps) (doneB ++ rest)]) a1) ∨ ∃ e, BlksE (LRows L d (n + 1)) (LRowsB L d (n + 1)) L n j m a e ∧ EndB e
variable {L d n End EndB}
theorem rowCome {done : List Row} {a a1 : Nat} {r : Row} (hr : RdRow (LRows L d (n + 1)) L n a r a1) (h : ToCome L d n End EndB (done ++ [r]) a1) : ∃ z w fs ps, L[a]? = some z ∧ HeadRd n z w fs ps ∧ BlksCome L d n End EndB done w fs ps [] 0 (nbF fs) (a + 1) := by
  obtain ⟨z, w, fs, ps, bs, hz, hd, hb, e⟩ := hr
  exact ⟨z, w, fs, ps, hz, hd, .inl ⟨bs, a1, hb, by rw [List.nil_append, ← e]; exact h⟩⟩
theorem moreCome {done : List Row} {a e : Nat} (h : LMoreB (RdRow (LRows L d (n + 1)) L n) (LRowB (LRows L d (n + 1)) (LRowsB L d (n + 1)) L n) a e) (he : EndB e) : ∃ z w fs ps, L[a]? = some z ∧ HeadRd n z w fs ps ∧ BlksCome L d n End EndB done w fs ps [] 0 (nbF fs) (a + 1) := by
  cases h with
  | here h =>
    obtain ⟨z, w, fs, ps, hz, hd, hb⟩ := h
    exact ⟨z, w, fs, ps, hz, hd, .inr ⟨e, hb, he⟩⟩
  | later h1 h2 => exact rowCome h1 (.inr ⟨e, h2, he⟩)
theorem toCome_next {done : List Row} {a : Nat} (h : ToCome L d n End EndB done a) : (HeadBad L n a ∧ End done a) ∨ ∃ z w fs ps, L[a]? = some z ∧ HeadRd n z w fs ps ∧ BlksCome L d n End EndB done w fs ps [] 0 (nbF fs) (a + 1) := by
  rcases h with ⟨rest, i2, h, he⟩ | ⟨e, h, he⟩
  · cases h with
    | stop h => rw [List.append_nil] at he; exact .inl ⟨h, he⟩
    | step h1 h2 => exact .inr (rowCome h1 (.inl ⟨_, i2, h2, by rw [List.append_assoc]; exact he⟩))
  · exact .inr (moreCome h he)
/-- a block is read at a -/
def BlkRdy (L : List Str) (d n : Nat) (End : List Row → Nat → Prop) (EndB : Nat → Prop) (done : List Row) (w : Str) (fs ps : List Str) (doneB : List (List Row)) (j m a : Nat) : Prop :=
  (∃ b a2, LRows L d (n + 1) a b a2 ∧ BlksCome L d n End EndB done w fs ps (doneB ++ [b]) (j + 1) m a2) ∨ ∃ e, LRowsB L d (n + 1) a e ∧ EndB e
theorem blks_step {done : List Row} {w : Str} {fs ps : List Str} {doneB : List (List Row)} {j m a : Nat} (h : BlksCome L d n End EndB done w fs ps doneB j (m + 1) a) :
    (j = 1 ∧ L[a]? ≠ some (ind n ++ ("else" : Str)) ∧ EndB (a + 1)) ∨ ∃ a1, (j = 1 → L[a]? = some (ind n ++ ("else" : Str)) ∧ a1 = a + 1) ∧ (j ≠ 1 → a1 = a) ∧ BlkRdy L d n End EndB done w fs ps doneB j m a1 := by
  rcases h with ⟨rest, a1, h, hc⟩ | ⟨e, h, he⟩
  · cases h with
    | cons c1 c2 h1 h2 => exact .inr ⟨_, c1, c2, .inl ⟨_, _, h1, .inl ⟨_, a1, h2, by rw [List.append_assoc]; exact hc⟩⟩⟩
  · cases h with
    | els hj hn => exact .inl ⟨hj, hn, he⟩
    | here c1 c2 h1 => exact .inr ⟨_, c1, c2, .inr ⟨e, h1, he⟩⟩
    | later c1 c2 h1 h2 => exact .inr ⟨_, c1, c2, .inl ⟨_, _, h1, .inr ⟨e, h2, he⟩⟩⟩
theorem blks_end {done : List Row} {w : Str} {fs ps : List Str} {doneB : List (List Row)} {j a : Nat} (h : BlksCome L d n End EndB done w fs ps doneB j 0 a) : ToCome L d n End EndB (done ++ [mkRowP w (valsF fs ps) doneB]) a := by
  rcases h with ⟨rest, a1, h, hc⟩ | ⟨e, h, he⟩
  · cases h with
    | nil => rw [List.append_nil] at hc; exact hc
  · cases h
/-- how a block begins -/
theorem begin_right {i i2 : Nat} {rs : List Row} (h : LRows L (d + 1) n i rs i2) (he : End rs i2) : (L[i]? = some (ind n ++ ("nothing" : Str)) ∧ End [] (i + 1)) ∨ (L[i]? ≠ some (ind n ++ ("nothing" : Str)) ∧ ((HeadBad L n i ∧ EndB (i + 1)) ∨ ∃ z w fs ps, L[i]? = some z ∧ HeadRd n z w fs ps ∧ BlksCome L d n End EndB [] w fs ps [] 0 (nbF fs) (i + 1))) := by
  rcases h with ⟨h, e1, e2⟩ | ⟨hno, r, rest, a1, e, h1, h2⟩
  · subst e1 e2; exact .inl ⟨h, he⟩
  · subst e; exact .inr ⟨hno, .inr (rowCome h1 (.inl ⟨rest, i2, h2, he⟩))⟩
theorem begin_wrong {i e : Nat} (h : LRowsB L (d + 1) n i e) (he : EndB e) : (L[i]? = some (ind n ++ ("nothing" : Str)) ∧ End [] (i + 1)) ∨ (L[i]? ≠ some (ind n ++ ("nothing" : Str)) ∧ ((HeadBad L n i ∧ EndB (i + 1)) ∨ ∃ z w fs ps, L[i]? = some z ∧ HeadRd n z w fs ps ∧ BlksCome L d n End EndB [] w fs ps [] 0 (nbF fs) (i + 1))) := by
  obtain ⟨hno, ⟨h, e1⟩ | h⟩ := h
  · subst e1; exact .inr ⟨hno, .inl ⟨h, he⟩⟩
  · exact .inr ⟨hno, .inr (moreCome h he)⟩
end
/-- how reading stands ahead of a row -/
def RbIv (H : Hp) (m l : Addr) (L : List Str) (d n : Nat) (End : List Row → Nat → Prop) (EndB : Nat → Prop) (fnd : Addr) (k : Nat) (σ : St) (H' : Hp) : Prop :=
  ∃ (hv : V) (cur : Nat) (bd : Bool) (done : List Row) (zs : List V) (v4 : Option V), σ = [some (.ref m), some (.int (n : Nat)), some (.ref fnd), some hv, v4] ∧ Fr (· ≠ m) H H' ∧ MAt H' m l L cur bd ∧ H' fnd = some (.lst zs) ∧ zs.length ≤ cur ∧
    (bd = false → Paired (RowAt (fun x => H x = none ∧ x ≠ fnd ∧ hv ≠ .ref x) lawK H' d) zs done) ∧
    ((hv = .non ∧ bd = false ∧ End done cur ∧ k = 0) ∨ (hv = .non ∧ bd = true ∧ EndB (cur + 1) ∧ k = 0) ∨
      (∃ z w fs ps hd, hv = .ref hd ∧ bd = false ∧ L[cur]? = some z ∧ HeadRd n z w fs ps ∧ BlksCome L d n End EndB done w fs ps [] 0 (nbF fs) (cur + 1) ∧ H' hd = some (.lst (.str w :: valsF fs ps)) ∧ H hd = none ∧ hd ≠ fnd ∧ k = L.length - cur))
/-- how reading stands ahead of block j of a row -/
def RnIv (H : Hp) (m l : Addr) (L : List Str) (d n : Nat) (End : List Row → Nat → Prop) (EndB : Nat → Prop) (fnd : Addr) (done : List Row) (zs : List V) (w0 : Str) (fs ps : List Str) (cur : Nat) (hd : Addr) (j : Nat) (σ : St) (H' : Hp) : Prop :=
  ∃ (cu : Nat) (bd : Bool) (mm : Nat) (doneB : List (List Row)) (ws : List V) (v4 : Option V), σ = [some (.ref m), some (.int (n : Nat)), some (.ref fnd), some (.ref hd), v4] ∧ Fr (· ≠ m) H H' ∧ MAt H' m l L cu bd ∧ cur + 1 ≤ cu ∧ H' fnd = some (.lst zs) ∧
      H' hd = some (.lst (.str w0 :: valsF fs ps ++ ws)) ∧ ws.length = j ∧ Paired (RowAt (fun x => H x = none ∧ x ≠ fnd ∧ x ≠ hd) lawK H' d) zs done ∧ mm + j = nbF fs ∧
      ((bd = false ∧ BlksCome L d n End EndB done w0 fs ps doneB j mm cu ∧ doneB.length = j ∧ Paired (fun v b => ∃ e, d = e + 1 ∧ RowsAt (fun x => H x = none ∧ x ≠ fnd ∧ x ≠ hd) lawK H' e v b) ws doneB) ∨ (bd = true ∧ EndB (cu + 1)))
section
variable {P : Program} {w : World} {K : PySem.W.Frag} {mg : Str → Option Value} {base : Heap}
abbrev sLReadBlock : Stmt := topS 50
theorem scLReadBlock : FnScope ["_law_m", "_law_deep", "_law_found", "_law_head_here", "_law_nth"] ["_law_m", "_law_deep"] (defScope sLReadBlock) := ⟨rfl, rfl, rfl, by decide +kernel, rfl, by decide +kernel, by decide +kernel⟩
def spLReadBlock (d : Nat) : Sp := fun vs H Q _ => ∃ (m l : Addr) (L : List Str) (i n : Nat), vs = [.ref m, .int (n : Nat)] ∧ MAt H m l L i false ∧ LnOk L ∧ NumSh L ∧ n + d ≤ 990 ∧
  ((∃ rs i2, LRows L (d + 1) n i rs i2 ∧ ∀ H' v, Fr (· ≠ m) H H' → MAt H' m l L i2 false → RowsAt (fun x => H x = none) lawK H' d v rs → Q v H') ∨
    ∃ e, LRowsB L (d + 1) n i e ∧ ∀ H' v e', Fr (· ≠ m) H H' → MAt H' m l L e' true → e = e' + 1 → Q v H')
theorem ok_LReadBlock {f : Addr} {fd : FuncData} {k d : Nat} {spF : Sp} (F : Fun K "_law_read_block" "_law_read_block" sLReadBlock f fd) (B : Bl mg) (hk : 2 ≤ k) (gLLine : Own P w K mg base 1 "_law_line" ["_law_m"] spLLine) (gLForm : Own P w K mg base 1 "_law_form" ["_law_word_here"] spLForm)
    (gLHead : Own P w K mg base 2 "_law_head" ["_law_m", "_law_deep"] spLHead) (gLReadBlock : Own P w K mg base k "_law_read_block" ["_law_m", "_law_deep"] spF) (hF : ∀ e, d = e + 1 → spF = spLReadBlock e) : FnOk P w K mg base CX0 (k + 1) f fd ["_law_m", "_law_deep"] (spLReadBlock d) := by
  refine F.ok scLReadBlock (fun vs H Q E h => ?_) (fun cdv A outer s H vs Q E hr h => ?_)
  · obtain ⟨m, l, L, i, n, rfl, _⟩ := h
    rfl
  obtain ⟨m, l, L, i, n, rfl, h, lok, num, hn, q⟩ := h
  refine ⟨_, (pss_cons (ps_set (i := 2) scLReadBlock.nd rfl (by first | exact Or.inl rfl | exact Or.inr rfl) (pe_lst pa_nil))
      (pss_cons (ps_if (pt_cmpR op_eq (pe_own gLLine (hr.mono (by omega)) (by rfl) (pa_cons (pv 0) pa_nil)) (pe_op op_add_str (pe_op op_mul_str pe_str (pv 1)) pe_str) (nomark _)) (pss_cons (ps_dput (hu_of hr) (pv 0) pe_str (pe_op op_add (pe_dget (hu_of hr) (pv 0) pe_str (fun _ _ => rfl)) pe_int) rfl)
      (pss_one (ps_ret (pe_lst pa_nil)))) pss_nil)
      (pss_cut (ps_set (i := 3) scLReadBlock.nd rfl (by first | exact Or.inl rfl | exact Or.inr rfl) (pe_own gLHead (hr.mono (by omega)) (by rfl) (pa_cons (pv 0) (pa_cons (pv 1) pa_nil))))
      (pss_cons (ps_dput (hu_of hr) (pv 0) pe_str (pe_cmpR op_isN (pv 3) pe_non (nomark _)) rfl)
      (pss_cons (ps_while PassesOwn.never (pt_cmpR op_notN (pv 3) pe_non (nomark _)) (pss_cons (ps_dput (hu_of hr) (pv 0) pe_str (pe_op op_add (pe_dget (hu_of hr) (pv 0) pe_str (fun _ _ => rfl)) pe_int) rfl)
      (pss_cons (ps_for PassesOwn.never rfl (pi_range1 (by rfl) B.range (pa_cons (pe_m1 PySem.F.slot_str_count PySem.F.type_str_count mt_count (pe_own gLForm (hr.mono (by omega)) (by rfl) (pa_cons (pe_ix ix_list (pv 3) pe_int (fun _ _ => rfl)) pa_nil)) pe_str) pa_nil)) (pg_name (i := 4) scLReadBlock.nd rfl (by first | exact Or.inl rfl | exact Or.inr rfl)) (pss_cut (ps_if (PW.pt (pw_and (pt_cmpR op_eq (pv 4) pe_int (nomark _)) (pw_and1 (pt_not (pt_val (pe_dget (hu_of hr) (pv 0) pe_str (fun _ _ => rfl))))))) (pss_cons (ps_dput (hu_of hr) (pv 0) pe_str (pe_cmpR op_ne (pe_own gLLine (hr.mono (by omega)) (by rfl) (pa_cons (pv 0) pa_nil)) (pe_op op_add_str (pe_op op_mul_str pe_str (pv 1)) pe_str) (nomark _)) rfl)
      (pss_one (ps_dput (hu_of hr) (pv 0) pe_str (pe_op op_add (pe_dget (hu_of hr) (pv 0) pe_str (fun _ _ => rfl)) (pe_callTy call_int1 (by rfl) B.int (by decide +kernel) (pa_cons (pe_not (pe_dget (hu_of hr) (pv 0) pe_str (fun _ _ => rfl))) pa_nil))) rfl))) pss_nil)
      (pss_one (ps_expr (pe_bm PySem.F.plainAttrs_list PySem.F.slot_list_append PySem.F.type_list_append mt_append (pv 3) (pa_cons (pe_ifExp (pt_val (pe_dget (hu_of hr) (pv 0) pe_str (fun _ _ => rfl))) (pe_lst pa_nil) (pe_own gLReadBlock (hr.mono (by omega)) (by rfl) (pa_cons (pv 0) (pa_cons (pe_op op_add (pv 1) pe_int) pa_nil)))) pa_nil))))))
      (pss_cons (ps_expr (pe_bm PySem.F.plainAttrs_list PySem.F.slot_list_append PySem.F.type_list_append mt_append (pv 2) (pa_cons (pe_callTy call_tuple_of (by rfl) B.tuple (by decide +kernel) (pa_cons (pv 3) pa_nil)) pa_nil)))
      (pss_one (ps_set (i := 3) scLReadBlock.nd rfl (by first | exact Or.inl rfl | exact Or.inr rfl) (pe_ifExp (pt_val (pe_dget (hu_of hr) (pv 0) pe_str (fun _ _ => rfl))) pe_non (pe_own gLHead (hr.mono (by omega)) (by rfl) (pa_cons (pv 0) (pa_cons (pv 1) pa_nil))))))))))
      (pss_one (ps_ret (pv 2)))))))), ?_⟩
  have bg : sizeLine ≥ 16777216 := by decide
  have l7 : ("nothing" : Str).length = 7 := by decide +kernel
  have l4 : ("else" : Str).length = 4 := by decide +kernel
  have lst : ("  " : Str).length = 2 := by decide +kernel
  have il : (ind n).length ≤ 2000 := by rw [ind_len]; omega
  have ei : repS "  " n = ind n := rfl
  refine ⟨Nat.zero_le _, fun fnd nfnd => ?_⟩
  have s1 : Same H (upd H fnd (.lst [])) := Same.new nfnd
  have hf1 : (upd H fnd (.lst [])) fnd = some (.lst []) := upd_same
  generalize hG1 : upd H fnd _ = G1 at *
  have h1 := h.same s1
  have sc : ∀ z : Str, scal (lineV L i) (.str z) = true := fun z => by
    unfold lineV
    cases L[i]? <;> rfl
  have ln : ∀ (i : Nat) (z : Str), decide (lineV L i = .str z) = decide (L[i]? = some z) := fun i z => by
    unfold lineV
    cases L[i]? with
    | none => rfl
    | some y => exact decide_eq_decide.mpr ⟨fun h => by rw [V.str.inj h], fun h => by rw [Option.some.inj h]⟩
  refine ⟨_, rfl, m, l, L, i, false, rfl, h1, _, rfl, "  ", n, rfl, rfl, by omega, by omega, by omega, _, _, rfl, rfl, by rw [ei]; omega, sc _, _, rfl, ?_⟩
  rw [ei, ln]
  obtain ⟨End, EndB, hE1, hE2, hB⟩ : ∃ (End : List Row → Nat → Prop) (EndB : Nat → Prop), (∀ rs i2, End rs i2 → ∀ H' v, Fr (· ≠ m) H H' → MAt H' m l L i2 false → RowsAt (fun x => H x = none) lawK H' d v rs → Q v H') ∧ (∀ e, EndB e → ∀ H' v e', Fr (· ≠ m) H H' → MAt H' m l L e' true → e = e' + 1 → Q v H') ∧
      ((L[i]? = some (ind n ++ ("nothing" : Str)) ∧ End [] (i + 1)) ∨ (L[i]? ≠ some (ind n ++ ("nothing" : Str)) ∧ ((HeadBad L n i ∧ EndB (i + 1)) ∨ ∃ z w fs ps, L[i]? = some z ∧ HeadRd n z w fs ps ∧ BlksCome L d n End EndB [] w fs ps [] 0 (nbF fs) (i + 1)))) := by
    rcases q with ⟨rs, i2, h, q⟩ | ⟨e, h, q⟩
    · exact ⟨fun a b => a = rs ∧ b = i2, fun _ => False, (by rintro _ _ ⟨rfl, rfl⟩; exact q), fun _ h => h.elim, begin_right (End := fun a b => a = rs ∧ b = i2) (EndB := fun _ => False) h ⟨rfl, rfl⟩⟩
    · exact ⟨fun _ _ => False, fun a => a = e, fun _ _ h => h.elim, (by rintro _ rfl; exact q), begin_wrong (End := fun _ _ => False) (EndB := fun a => a = e) h rfl⟩
  rcases hB with ⟨hno, hEnd⟩ | ⟨hno, hB⟩
  · rw [decide_eq_true hno]
    refine iteT ⟨_, rfl, m, _, rfl, h1.at_, _, _, rfl, rfl, _, rfl, m, _, rfl, h1.setAt (i + 1), Nat.zero_le _, fun p np => ?_⟩
    have h2 := h1.put (j := i + 1) (c := false)
    have f2 : Fr (· ≠ m) H (upd G1 m (.dK [(Sum.inr "lines", .ref l), (Sum.inr "at", .int ((i + 1 : Nat) : Int)), (Sum.inr "bad", .bl false)])) := (Fr.same s1).trans (Fr.put fun z => z rfl)
    generalize hG2 : upd G1 m _ = G2 at *
    have hm2 := h2.m
    have npH : H p = none := by
      cases e : H p with
      | none => rfl
      | some o =>
        have pm : p ≠ m := fun z => by rw [z, hm2] at np; cases np
        have := f2 _ _ pm e
        rw [np] at this
        cases this
    exact hE1 _ _ hEnd _ _ (f2.trans (Fr.same (Same.new np))) (h2.same (Same.new np)) ⟨[], ⟨p, true, rfl, npH, rfl, upd_same⟩, .nil⟩
  rw [decide_eq_false hno]
  refine iteF ⟨fun σ H' => ∃ hv, σ = [some (.ref m), some (.int (n : Nat)), some (.ref fnd), some hv, none] ∧ Same H H' ∧ H' fnd = some (.lst []) ∧ ((hv = .non ∧ HeadBad L n i ∧ EndB (i + 1)) ∨ ∃ z w fs ps hd, hv = .ref hd ∧ L[i]? = some z ∧ HeadRd n z w fs ps ∧ BlksCome L d n End EndB [] w fs ps [] 0 (nbF fs) (i + 1) ∧ H' hd = some (.lst (.str w :: valsF fs ps)) ∧ H hd = none ∧ hd ≠ fnd), ?_, ?_⟩
  · have one : ∀ {z w fs ps}, L[i]? = some z → HeadRd n z w fs ps → ¬ HeadBad L n i := fun hz hd h => h _ hz _ _ _ hd
    refine ⟨_, rfl, _, rfl, m, l, L, i, false, n, rfl, h1, lok, num, by omega, fun hb H2 s2 => ?_, fun z w fs ps hz hd H2 hd2 s2 nh hh => ?_⟩
    · rcases hB with h | ⟨z, w, fs, ps, hz, hd, _⟩
      · exact ⟨.non, rfl, Same.trans s1 s2, s2 _ _ hf1, .inl ⟨rfl, h⟩⟩
      · exact absurd hb (one hz hd)
    · rcases hB with ⟨h, _⟩ | ⟨z', w', fs', ps', hz', hd', hc⟩
      · exact absurd h (one hz hd)
      · refine ⟨.ref hd2, rfl, Same.trans s1 s2, s2 _ _ hf1, .inr ⟨z, w, fs, ps, hd2, rfl, hz, hd, ?_, hh, Same.free s1 nh, fun e => by rw [e, hf1] at nh; cases nh⟩⟩
        rw [hz] at hz'
        obtain rfl := Option.some.inj hz'
        have e1 := hd.pt.symm.trans hd'.pt
        obtain ⟨rfl, rfl⟩ := List.cons.inj e1
        have e2 := hd.fd.symm.trans hd'.fd
        obtain rfl := Option.some.inj e2
        exact hc
  rintro σ G2 ⟨hv, rfl, s2, hf2, hh⟩
  have h2 := h.same s2
  have mfnd : m ≠ fnd := fun e => by rw [← e, h.m] at nfnd; cases nfnd
  have freeH : ∀ {H1 : Hp} {x : Addr} {cur : Nat} {bd : Bool}, Fr (· ≠ m) H H1 → MAt H1 m l L cur bd → H1 x = none → H x = none := fun {H1 x cur bd} f hm nx => by
    refine Fr.free f (fun e => ?_) nx
    rw [e, hm.m] at nx
    cases nx
  refine ⟨_, rfl, rfl, _, rfl, m, _, rfl, h2.setBad _, ?_⟩
  have h3 := h2.put (j := i) (c := decide (hv = V.non))
  have f3 : Fr (· ≠ m) H (upd G2 m (.dK [(Sum.inr "lines", .ref l), (Sum.inr "at", .int i), (Sum.inr "bad", .bl (decide (hv = V.non)))])) := (Fr.same s2).trans (Fr.put fun z => z rfl)
  have hf3 : (upd G2 m (.dK [(Sum.inr "lines", .ref l), (Sum.inr "at", .int i), (Sum.inr "bad", .bl (decide (hv = V.non)))])) fnd = some (.lst []) := by rw [upd_ne (Ne.symm mfnd)]; exact hf2
  have hh3 : ∀ hd xs, G2 hd = some (.lst xs) → (upd G2 m (.dK [(Sum.inr "lines", .ref l), (Sum.inr "at", .int i), (Sum.inr "bad", .bl (decide (hv = V.non)))])) hd = some (.lst xs) := fun hd xs e => by
    rw [upd_ne (fun z => by rw [z, h2.m] at e; cases e)]
    exact e
  generalize hG3 : upd G2 m _ = G3 at *
  refine ⟨fun k σ H' => RbIv H m l L d n End EndB fnd k σ H', ?_, ?_⟩
  · rcases hh with ⟨rfl, hb, he⟩ | ⟨z, w, fs, ps, hd, rfl, hz, hrd, hc, hhd, nhd, hdf⟩
    · exact ⟨0, .non, i, true, [], [], none, rfl, f3, h3, hf3, Nat.zero_le _, (fun c => by cases c), .inr (.inl ⟨rfl, rfl, he, rfl⟩)⟩
    · exact ⟨_, .ref hd, i, false, [], [], none, rfl, f3, h3, hf3, Nat.zero_le _, (fun _ => .nil), .inr (.inr ⟨z, w, fs, ps, hd, rfl, rfl, hz, hrd, hc, hh3 _ _ hhd, nhd, hdf, rfl⟩)⟩
  rintro k0 σ G4 ⟨hv4, cur, bd, done, zs, v4, rfl, f4, h4, hf4, lzs, hzs, hst⟩
  refine ⟨_, rfl, rfl, _, rfl, ?_⟩
  rcases hst with ⟨rfl, rfl, he, rfl⟩ | ⟨rfl, rfl, he, rfl⟩ | ⟨z, w0, fs, ps, hd, rfl, rfl, hz, hrd, hc, hhd, nhd, hdf, rfl⟩
  · exact iteF ⟨_, rfl, hE1 _ _ he _ _ f4 h4 ⟨zs, ⟨fnd, true, rfl, nfnd, rfl, hf4⟩, paired_imp (hzs rfl) fun v r q => q.to fun x kd ws k e => ⟨k.1, e⟩⟩⟩
  · exact iteF ⟨_, rfl, hE2 _ he _ _ cur f4 h4 rfl⟩
  have hcur : cur < L.length := (List.getElem?_eq_some_iff.mp hz).1
  have all := lok.all
  have hdm : hd ≠ m := fun e => by rw [e, h.m] at nhd; cases nhd
  have hzs := hzs rfl
  have htab := form_tab hrd.fd
  refine iteT ⟨_, fun σ' H' h => h, ?_⟩
  refine ⟨_, rfl, m, _, rfl, h4.at_, _, _, rfl, rfl, _, rfl, m, _, rfl, h4.setAt (cur + 1), ?_⟩
  have h5 := h4.put (j := cur + 1) (c := false)
  have f5 : Fr (· ≠ m) G4 (upd G4 m (.dK [(Sum.inr "lines", .ref l), (Sum.inr "at", .int ((cur + 1 : Nat) : Int)), (Sum.inr "bad", .bl false)])) := Fr.put fun z => z rfl
  generalize hG5 : upd G4 m _ = G5 at *
  have hhd5 := f5 _ _ hdm hhd
  have hf5 := f5 _ _ (Ne.symm mfnd) hf4
  have hzs5 : Paired (RowAt (fun x => H x = none ∧ x ≠ fnd ∧ x ≠ hd) lawK G5 d) zs done := paired_imp hzs fun v r q => q.to fun x kd ws k e => ⟨⟨k.1, k.2.1, fun z => k.2.2 (by rw [z])⟩, f5 _ _ (fun z => by have := k.1; rw [z, h.m] at this; cases this) e⟩
  have f05 := f4.trans f5
  -- the row's blocks
  refine ⟨_, rfl, hd, _, _, _, rfl, rfl, SqL.of hhd5, atI_nat (j := 0) rfl, w0, rfl, fun G6 s6 => ?_⟩
  unfold formV
  rw [formOf_eq, hrd.fd]
  have nb2 : nbF fs ≤ 2 := nb_few _ (fieldsOf_some hrd.fd)
  refine ⟨⟨_, rfl⟩, sgS fs, "b", rfl, rfl, ((nbF fs : Nat) : Int), congrArg (fun x => [V.int x]) (form_count hrd.fd), by omega, by omega, ?_⟩
  have h6 := h5.same s6
  have hhd6 := s6 _ _ hhd5
  have hf6 := s6 _ _ hf5
  have f06 := f05.trans (Fr.same s6)
  have lv : (valsF fs ps).length ≤ 3 := by
    unfold valsF
    rw [List.length_map, List.length_zip]
    have := htab.2.2.1
    have := htab.2.2.2.1
    omega
  refine for_it (walk_range (lo := 0) (n := ((nbF fs : Nat) : Int).toNat)) (fun j σ H' => RnIv H m l L d n End EndB fnd done zs w0 fs ps cur hd j σ H')
    ⟨cur + 1, false, nbF fs, [], [], v4, rfl, f06, h6, Nat.le_refl _, hf6, by rw [List.append_nil]; exact hhd6, rfl, paired_imp hzs5 fun v r q => q.to fun x kd ws k e => ⟨k, s6 _ _ e⟩, rfl, .inl ⟨rfl, hc, rfl, .nil⟩⟩ (fun _ _ _ _ _ => trivial) ?_ ?_
  · rintro j x σ H1 H2 hj ⟨cu, bd, mm, doneB, ws, v4, rfl, f1, hm1, hcu, hfn1, hhd1, hwl, hzs1, hmm, hst⟩ ⟨rfl, rfl⟩
    have hj2 : j < nbF fs := by simpa using hj
    obtain ⟨m2, rfl⟩ : ∃ m2, mm = m2 + 1 := ⟨mm - 1, by omega⟩
    have z0 : ((fun i : Nat => V.int (0 + (i : Int))) j) = V.int (j : Int) := congrArg V.int (by omega)
    rw [z0]
    refine ⟨fun σ H' => ∃ (cu : Nat) (bd : Bool), σ = [some (.ref m), some (.int (n : Nat)), some (.ref fnd), some (.ref hd), some (.int (j : Nat))] ∧ Fr (· ≠ m) H2 H' ∧ MAt H' m l L cu bd ∧ cur + 1 ≤ cu ∧
      ((bd = false ∧ BlkRdy L d n End EndB done w0 fs ps doneB j m2 cu ∧ doneB.length = j ∧ Paired (fun v b => ∃ e, d = e + 1 ∧ RowsAt (fun x => H x = none ∧ x ≠ fnd ∧ x ≠ hd) lawK H2 e v b) ws doneB) ∨ (bd = true ∧ EndB (cu + 1))), ?_, ?_⟩
    · refine ⟨_, rfl, rfl, _, rfl, ?_⟩
      by_cases hj1 : j = 1
      · rw [decide_eq_true (by rw [hj1]; rfl)]
        refine iteT ⟨_, rfl, m, _, rfl, hm1.bad, bd, rfl, ?_⟩
        rcases hst with ⟨rfl, hb, hdl, hp⟩ | ⟨rfl, he⟩
        · refine iteT ⟨_, rfl, m, l, L, cu, false, rfl, hm1, _, rfl, "  ", n, rfl, rfl, by omega, by omega, by omega, _, _, rfl, rfl, by rw [ei]; omega, ?_, ?_⟩
          · unfold lineV
            cases L[cu]? <;> rfl
          rw [ei, ln]
          rcases blks_step hb with ⟨_, hne, he⟩ | ⟨a1, c1, _, hr⟩
          · rw [decide_eq_false hne]
            refine ⟨_, rfl, m, _, rfl, hm1.setBad _, ?_⟩
            have hm8 := hm1.put (j := cu) (c := true)
            have f8 : Fr (· ≠ m) H2 (upd H2 m (.dK [(Sum.inr "lines", .ref l), (Sum.inr "at", .int cu), (Sum.inr "bad", .bl true)])) := Fr.put fun z => z rfl
            refine ⟨_, rfl, m, _, rfl, hm8.at_, _, rfl, m, _, rfl, hm8.bad, _, rfl, .inr ⟨_, rfl, _, _, rfl, rfl, ?_⟩⟩
            have e0 : ((fun i j : Int => V.int (i + j)) (cu : Int) (if (!true) = true then 1 else 0)) = V.int ((cu : Nat) : Int) := congrArg V.int (by simp)
            rw [e0]
            exact ⟨_, rfl, m, _, rfl, hm8.setAt cu, cu, true, rfl, f8.trans (Fr.put fun z => z rfl), hm8.put, hcu, .inr ⟨rfl, he⟩⟩
          · rw [decide_eq_true (c1 hj1).1]
            refine ⟨_, rfl, m, _, rfl, hm1.setBad _, ?_⟩
            have hm8 := hm1.put (j := cu) (c := false)
            have f8 : Fr (· ≠ m) H2 (upd H2 m (.dK [(Sum.inr "lines", .ref l), (Sum.inr "at", .int cu), (Sum.inr "bad", .bl false)])) := Fr.put fun z => z rfl
            refine ⟨_, rfl, m, _, rfl, hm8.at_, _, rfl, m, _, rfl, hm8.bad, _, rfl, .inr ⟨_, rfl, _, _, rfl, rfl, ?_⟩⟩
            have e0 : ((fun i j : Int => V.int (i + j)) (cu : Int) (if (!false) = true then 1 else 0)) = V.int ((cu + 1 : Nat) : Int) := congrArg V.int (by simp)
            rw [e0]
            rw [(c1 hj1).2] at hr
            exact ⟨_, rfl, m, _, rfl, hm8.setAt (cu + 1), cu + 1, false, rfl, f8.trans (Fr.put fun z => z rfl), hm8.put, by omega, .inl ⟨rfl, hr, hdl, hp⟩⟩
        · exact iteF ⟨cu, true, rfl, Fr.refl, hm1, hcu, .inr ⟨rfl, he⟩⟩
      · rw [decide_eq_false (show ¬ V.int ((j : Nat) : Int) = V.int 1 from fun z => hj1 (by have := V.int.inj z; omega))]
        refine iteF ?_
        rcases hst with ⟨rfl, hb, hdl, hp⟩ | ⟨rfl, he⟩
        · rcases blks_step hb with ⟨c, _⟩ | ⟨a1, _, c2, hr⟩
          · exact absurd c hj1
          · rw [c2 hj1] at hr
            exact ⟨cu, false, rfl, Fr.refl, hm1, hcu, .inl ⟨rfl, hr, hdl, hp⟩⟩
        · exact ⟨cu, true, rfl, Fr.refl, hm1, hcu, .inr ⟨rfl, he⟩⟩
    rintro σ G7 ⟨cu2, bd2, rfl, f7, hm7, hcu2, hst7⟩
    have f17 := f1.trans f7
    have hhd7 := f7 _ _ hdm hhd1
    have hfn7 := f7 _ _ (Ne.symm mfnd) hfn1
    have mx : ∀ {x : Addr}, H x = none → x ≠ m := fun {x} k z => by rw [z, h.m] at k; cases k
    have hzs7 : Paired (RowAt (fun x => H x = none ∧ x ≠ fnd ∧ x ≠ hd) lawK G7 d) zs done := paired_imp hzs1 fun v r q => q.to fun x kd ws k e => ⟨k, f7 _ _ (mx k.1) e⟩
    -- what is behind the append
    have fin : ∀ {G8 : Hp} {v : V} {cu : Nat} {bd : Bool}, Fr (· ≠ m) G7 G8 → MAt G8 m l L cu bd → cur + 1 ≤ cu →
      ((bd = false ∧ ∃ b, BlksCome L d n End EndB done w0 fs ps (doneB ++ [b]) (j + 1) m2 cu ∧ doneB.length = j ∧ Paired (fun v b => ∃ e, d = e + 1 ∧ RowsAt (fun x => H x = none ∧ x ≠ fnd ∧ x ≠ hd) lawK H2 e v b) ws doneB ∧ ∃ e, d = e + 1 ∧ RowsAt (fun x => G7 x = none) lawK G8 e v b) ∨ (bd = true ∧ EndB (cu + 1))) →
      RnIv H m l L d n End EndB fnd done zs w0 fs ps cur hd (j + 1) [some (.ref m), some (.int (n : Nat)), some (.ref fnd), some (.ref hd), some (.int (j : Nat))] (upd G8 hd (.lst ((V.str w0 :: valsF fs ps ++ ws) ++ [v]))) := fun {G8 v cu bd} f8 hm8 hcu8 hst8 => by
      have up : ∀ {x : Addr} {o : HO}, x ≠ hd → x ≠ m → H2 x = some o → (upd G8 hd (.lst ((V.str w0 :: valsF fs ps ++ ws) ++ [v]))) x = some o := fun {x o} a b e => by
        rw [upd_ne a]
        exact f8 _ _ b (f7 _ _ b e)
      refine ⟨cu, bd, m2, ?_⟩
      have base : ∀ {X : List (List Row) → List V → Prop}, (∃ dB, X dB (ws ++ [v])) → ∃ (dB : List (List Row)) (ws' : List V) (v4 : Option V), [some (.ref m), some (.int (n : Nat)), some (.ref fnd), some (.ref hd), some (.int (j : Nat))] = [some (.ref m), some (.int (n : Nat)), some (.ref fnd), some (.ref hd), v4] ∧ Fr (· ≠ m) H (upd G8 hd (.lst ((V.str w0 :: valsF fs ps ++ ws) ++ [v]))) ∧ MAt (upd G8 hd (.lst ((V.str w0 :: valsF fs ps ++ ws) ++ [v]))) m l L cu bd ∧ cur + 1 ≤ cu ∧ (upd G8 hd (.lst ((V.str w0 :: valsF fs ps ++ ws) ++ [v]))) fnd = some (.lst zs) ∧
          (upd G8 hd (.lst ((V.str w0 :: valsF fs ps ++ ws) ++ [v]))) hd = some (.lst (.str w0 :: valsF fs ps ++ ws')) ∧ ws'.length = j + 1 ∧ Paired (RowAt (fun x => H x = none ∧ x ≠ fnd ∧ x ≠ hd) lawK (upd G8 hd (.lst ((V.str w0 :: valsF fs ps ++ ws) ++ [v]))) d) zs done ∧ m2 + (j + 1) = nbF fs ∧ X dB ws' := fun {X} ⟨dB, hX⟩ => by
        have ln : l ≠ hd := fun e => by
          have := hm8.l
          rw [← e, h.l] at nhd
          cases nhd
        refine ⟨dB, ws ++ [v], _, rfl, (f17.trans f8).upN nhd, ⟨by rw [upd_ne (Ne.symm hdm)]; exact hm8.m, by rw [upd_ne ln]; exact hm8.l⟩, hcu8, up (Ne.symm hdf) (Ne.symm mfnd) hfn1, ?_, by rw [List.length_append, hwl]; rfl, ?_, by omega, hX⟩
        · rw [upd_same, List.append_assoc]
        · exact paired_imp hzs1 fun v r q => q.to fun x kd ws k e => ⟨k, up k.2.2 (mx k.1) e⟩
      refine base ?_
      rcases hst8 with ⟨rfl, b, hb, hdl, hp, e, rfl, hv⟩ | ⟨rfl, he⟩
      · refine ⟨doneB ++ [b], .inl ⟨rfl, hb, by rw [List.length_append, hdl]; rfl, paired_app ⟨e, rfl, ?_⟩ (paired_imp hp fun v r ⟨e, h1, q⟩ => ⟨e, h1, q.to fun x kd ws k e => ⟨k, up k.2.2 (mx k.1) e⟩⟩)⟩⟩
        refine hv.to fun x kd ws k e2 => ?_
        have x1 : x ≠ hd := fun z => by rw [z, hhd7] at k; cases k
        refine ⟨⟨freeH f17 hm7 k, (fun z => by rw [z, hfn7] at k; cases k), x1⟩, by rw [upd_ne x1]; exact e2⟩
      · exact ⟨[], .inr ⟨rfl, he⟩⟩
    refine ⟨_, rfl, .inl ⟨rfl, _, SqL.of hhd7⟩, _, rfl, m, _, rfl, hm7.bad, bd2, rfl, ?_⟩
    have lhd : (V.str w0 :: valsF fs ps ++ ws).length ≤ 1000 := by
      rw [List.length_append, List.length_cons]
      omega
    rcases hst7 with ⟨rfl, hr, hdl, hp⟩ | ⟨rfl, he⟩
    · refine iteF ⟨_, rfl, _, rfl, _, _, rfl, rfl, ?_⟩
      obtain ⟨e, rfl⟩ : ∃ e, d = e + 1 := by
        cases d with
        | zero => rcases hr with ⟨b, a2, h, _⟩ | ⟨e, h, _⟩ <;> exact h.elim
        | succ e => exact ⟨e, rfl⟩
      rw [hF e rfl]
      refine ⟨m, l, L, cu2, n + 1, rfl, hm7, lok, num, by omega, ?_⟩
      have app : ∀ {G8 : Hp} {v : V}, Fr (· ≠ m) G7 G8 → G8 hd = some (.lst (V.str w0 :: valsF fs ps ++ ws)) := fun {G8 v} f8 => f8 _ _ hdm hhd7
      rcases hr with ⟨b, a2, hb, hc⟩ | ⟨e2, hb, he⟩
      · exact .inl ⟨b, a2, hb, fun G8 v f8 hm8 hv => ⟨hd, _, _, rfl, rfl, f8 _ _ hdm hhd7, small (by omega), fin f8 hm8 (by have := lRows_lt hb; omega) (.inl ⟨rfl, b, hc, hdl, hp, e, rfl, hv⟩)⟩⟩
      · exact .inr ⟨e2, hb, fun G8 v e' f8 hm8 hee => ⟨hd, _, _, rfl, rfl, f8 _ _ hdm hhd7, small (by omega), fin f8 hm8 (by have := lRowsB_lt hb; omega) (.inr ⟨rfl, by rw [← hee]; exact he⟩)⟩⟩
    · refine iteT ⟨Nat.zero_le _, fun p np => ?_⟩
      exact ⟨hd, _, _, rfl, rfl, Same.new np _ _ hhd7, small (by omega), fin (Fr.same (Same.new np)) (hm7.same (Same.new np)) hcu2 (.inr ⟨rfl, he⟩)⟩
  · rintro σ H1 ⟨cu, bd, mm, doneB, ws, v4, rfl, f1, hm1, hcu, hfn1, hhd1, hwl, hzs1, hmm, hst⟩
    have mx : ∀ {x : Addr}, H x = none → x ≠ m := fun {x} k z => by rw [z, h.m] at k; cases k
    have m0 : mm = 0 := by
      have : ((nbF fs : Nat) : Int).toNat = nbF fs := Int.toNat_natCast _
      omega
    subst m0
    have wl : ws.length = nbF fs := by omega
    refine ⟨_, rfl, .inl ⟨rfl, _, SqL.of hfn1⟩, _, rfl, hd, _, rfl, .inl ⟨SqL.of hhd1, fun T nT => ?_⟩⟩
    have s8 : Same H1 (upd H1 T (.tup (V.str w0 :: valsF fs ps ++ ws))) := Same.new nT
    have hT : (upd H1 T (.tup (V.str w0 :: valsF fs ps ++ ws))) T = some (.tup (V.str w0 :: valsF fs ps ++ ws)) := upd_same
    generalize hG8 : upd H1 T _ = G8 at *
    have nTH := freeH f1 hm1 nT
    have Tf : T ≠ fnd := fun e => by rw [e, hfn1] at nT; cases nT
    have Th : T ≠ hd := fun e => by rw [e, hhd1] at nT; cases nT
    have hfn8 := s8 _ _ hfn1
    refine ⟨fnd, _, _, rfl, rfl, hfn8, big (by omega), ?_⟩
    have hfn9 : (upd G8 fnd (.lst (zs ++ [V.ref T]))) fnd = some (.lst (zs ++ [V.ref T])) := upd_same
    have lf : l ≠ fnd := fun e => by rw [← e, h.l] at nfnd; cases nfnd
    have f9 : Fr (· ≠ m) H (upd G8 fnd (.lst (zs ++ [V.ref T]))) := (f1.trans (Fr.same s8)).upN nfnd
    have h9 : MAt (upd G8 fnd (.lst (zs ++ [V.ref T]))) m l L cu bd := ⟨by rw [upd_ne mfnd]; exact s8 _ _ hm1.m, by rw [upd_ne lf]; exact s8 _ _ hm1.l⟩
    have up9 : ∀ {x : Addr} {o : HO}, x ≠ fnd → H1 x = some o → (upd G8 fnd (.lst (zs ++ [V.ref T]))) x = some o := fun {x o} a e => by rw [upd_ne a]; exact s8 _ _ e
    have hT9 : (upd G8 fnd (.lst (zs ++ [V.ref T]))) T = some (.tup (V.str w0 :: valsF fs ps ++ ws)) := by rw [upd_ne Tf]; exact hT
    generalize hG9 : upd G8 fnd _ = G9 at *
    have lzs2 : (zs ++ [V.ref T]).length ≤ cu := by rw [List.length_append, List.length_singleton]; omega
    refine ⟨_, rfl, m, _, rfl, h9.bad, bd, rfl, ?_⟩
    rcases hst with ⟨rfl, hc, hdl, hp⟩ | ⟨rfl, he⟩
    · have row : RowAt (fun x => H x = none ∧ x ≠ fnd) lawK G9 d (.ref T) (mkRowP w0 (valsF fs ps) doneB) := by
        refine mkRow_atK hrd ⟨T, false, rfl, ⟨nTH, Tf⟩, rfl, hT9⟩ (paired_imp hp fun v b ⟨e, h1, q⟩ => ⟨e, h1, q.to fun x kd ws k e => ⟨⟨k.1, k.2.1⟩, up9 k.2.1 e⟩⟩) (by rw [hdl]; exact Int.toNat_natCast _)
      have hz9 : Paired (RowAt (fun x => H x = none ∧ x ≠ fnd) lawK G9 d) (zs ++ [V.ref T]) (done ++ [mkRowP w0 (valsF fs ps) doneB]) := paired_app row (paired_imp hzs1 fun v r q => q.to fun x kd ws k e => ⟨⟨k.1, k.2.1⟩, up9 k.2.1 e⟩)
      have hco := blks_end hc
      refine iteF ⟨_, rfl, _, rfl, m, l, L, cu, false, n, rfl, h9, lok, num, by omega, fun hb H2 s2 => ?_, fun z2 w2 fs2 ps2 hz2 hd2 H2 hq s2 nh hh2 => ?_⟩
      · rcases toCome_next hco with ⟨_, he⟩ | ⟨z2, w2, fs2, ps2, hz2, hd2, _⟩
        · exact ⟨0, by omega, .non, cu, false, _, _, _, rfl, f9.trans (Fr.same s2), h9.same s2, s2 _ _ hfn9, lzs2, fun _ => paired_imp hz9 fun v r q => q.to fun x kd ws k e => ⟨⟨k.1, k.2, fun z => nomatch z⟩, s2 _ _ e⟩, .inl ⟨rfl, rfl, he, rfl⟩⟩
        · exact absurd hd2 (hb _ hz2 _ _ _)
      · rcases toCome_next hco with ⟨hb, _⟩ | ⟨z3, w3, fs3, ps3, hz3, hd3, hc3⟩
        · exact absurd hd2 (hb _ hz2 _ _ _)
        · rw [hz2] at hz3
          obtain rfl := Option.some.inj hz3
          obtain ⟨rfl, rfl⟩ := List.cons.inj (hd2.pt.symm.trans hd3.pt)
          obtain rfl := Option.some.inj (hd2.fd.symm.trans hd3.fd)
          have nhH := freeH f9 h9 nh
          refine ⟨L.length - cu, by omega, .ref hq, cu, false, _, _, _, rfl, f9.trans (Fr.same s2), h9.same s2, s2 _ _ hfn9, lzs2, fun _ => paired_imp hz9 fun v r q => q.to fun x kd ws k e => ⟨⟨k.1, k.2, fun z => ?_⟩, s2 _ _ e⟩, .inr (.inr ⟨z2, w2, fs2, ps2, hq, rfl, rfl, hz2, hd2, hc3, hh2, nhH, (fun z => by rw [z, hfn9] at nh; cases nh), rfl⟩)⟩
          have z := V.ref.inj z
          rw [← z, nh] at e
          cases e
    · exact iteT ⟨0, by omega, .non, cu, true, [], _, _, rfl, f9, h9, hfn9, lzs2, (fun c => by cases c), .inr (.inl ⟨rfl, rfl, he, rfl⟩)⟩
end
end Ft
set_option Elab.async false
set_option linter.all false
set_option maxRecDepth 100000
set_option maxHeartbeats 1000000
set_option pp.maxSteps 3000
set_option pp.deepTerms.threshold 8
namespace Ft
open PySem L2 TL
section
variable {P : Program} {w : World} {K : PySem.W.Frag} {mg : Str → Option Value} {base : Heap}
theorem ok_ReadRowsE {f CT : Addr} {fd : FuncData} {k d : Nat} (F : Fun K "read_rows" "read_rows" sReadRows f fd) (B : Bl mg) (hk : 1 ≤ k) (gStandsAt : Own P w K mg base 1 "stands_at" ["lines", "at", "indent"] spStandsAt)
    (gEReadRow : OwnE P w K mg base k "read_row" ["lines", "at", "indent"] (fun vs H Q E => spReadRow d vs H Q E ∨ spReadRowE d CT vs H Q E)) : FnOk P w K mg base (L2N.CX P w) (k + 1) f fd ["lines", "at", "indent"] (spReadRowsE d CT) := by
  refine okN F scReadRows (fun vs H Q E h => ?_) (fun cdv A outer s H vs Q E hr h => ?_)
  · obtain ⟨l, L, i, n, e, rfl, _⟩ := h
    rfl
  obtain ⟨l, L, i, n, e, rfl, hl, lok, hiL, hn, ⟨hno, hrd⟩, q⟩ := h
  refine ⟨_, (pss_cons (ps_if (PW.pt (pw_and (pt_cmpR op_lt (pv 1) (pe_callB call_len_seq (by rfl) B.len (by decide +kernel) (pa_cons (pv 0) pa_nil)) (nomark _)) (pw_and1 (pt_cmpR op_eq (pe_ix ix_list (pv 0) (pv 1) (fun _ _ => rfl)) (pe_op op_add_str (pv 2) pe_str) (nomark _))))) (pss_one (ps_ret (pe_tup (pa_cons (pe_lst pa_nil) (pa_cons (pe_op op_add (pv 1) pe_int) pa_nil))))) pss_nil)
      (pss_cons (ps_asg (pe_ownE gEReadRow (hr.mono (by omega)) (L2N.takes_of rfl rfl rfl rfl) (by rfl) (pa_cons (pv 0) (pa_cons (pv 1) (pa_cons (pv 2) pa_nil)))) (pg_tup (by rfl) (pgs_cons (pg_name (i := 3) scReadRows.nd rfl (by first | exact Or.inl rfl | exact Or.inr rfl)) (pgs_cons (pg_name (i := 1) scReadRows.nd rfl (by first | exact Or.inl rfl | exact Or.inr rfl)) pgs_nil))))
      (pss_cons (ps_set (i := 4) scReadRows.nd rfl (by first | exact Or.inl rfl | exact Or.inr rfl) (pe_lst (pa_cons (pv 3) pa_nil)))
      (pss_cons (ps_while (L2.passes_of rfl) (pt_val (pe_own gStandsAt (hr.mono (by omega)) (by rfl) (pa_cons (pv 0) (pa_cons (pv 1) (pa_cons (pv 2) pa_nil))))) (pss_cons (ps_asg (pe_ownE gEReadRow (hr.mono (by omega)) (L2N.takes_of rfl rfl rfl rfl) (by rfl) (pa_cons (pv 0) (pa_cons (pv 1) (pa_cons (pv 2) pa_nil)))) (pg_tup (by rfl) (pgs_cons (pg_name (i := 3) scReadRows.nd rfl (by first | exact Or.inl rfl | exact Or.inr rfl)) (pgs_cons (pg_name (i := 1) scReadRows.nd rfl (by first | exact Or.inl rfl | exact Or.inr rfl)) pgs_nil))))
      (pss_one (ps_expr (pe_bm PySem.F.plainAttrs_list PySem.F.slot_list_append PySem.F.type_list_append mt_append (pv 4) (pa_cons (pv 3) pa_nil))))))
      (pss_one (ps_ret (pe_tup (pa_cons (pv 4) (pa_cons (pv 1) pa_nil))))))))), ?_⟩
  have bg : sizeLine ≥ 16777216 := by decide
  have il : (ind n).length ≤ 2000 := by rw [ind_len]; omega
  have l7 : ("nothing" : Str).length = 7 := by decide +kernel
  have all := lok.all
  have lt1 : ∀ a r c, RdRow (RdRows L d (n + 1)) L n a r c → a < c := fun _ _ _ h => rdRow_lt (fun _ _ _ h => rdRows_lt h) h
  have le1 : ∀ {a r c}, RdRow (RdRows L d (n + 1)) L n a r c → c ≤ L.length := fun h => rdRow_len (fun _ _ _ h => rdRows_len h) h
  refine ⟨_, rfl, _, rfl, l, _, rfl, .inl (SqL.of hl), _, _, rfl, rfl, _, rfl, ?_⟩
  rw [List.length_map]
  refine (fun rest => ite2 (fun c => ?_) (fun c => iteF rest)) ?_
  · have hi : i < L.length := by have := of_decide_eq_true c; omega
    have hz : L[i]? = some L[i] := List.getElem?_eq_getElem hi
    generalize L[i] = z at hz
    have ix : atI (L.map V.str) (i : Int) = some (.str z) := atI_nat (by rw [List.getElem?_map, hz]; rfl)
    refine ⟨_, rfl, _, rfl, l, _, _, _, rfl, rfl, SqL.of hl, ix, _, rfl, _, _, rfl, rfl, by omega, rfl, _, rfl, ?_⟩
    rw [decide_eq_false (fun z' => hno (by rw [hz, V.str.inj z']))]
    exact iteF rest
  rcases hrd with h1 | ⟨r, a1, h1, h2⟩
  · exact ⟨_, rfl, _, rfl, _, rfl, .inr ⟨l, L, i, n, e, rfl, hl, lok, hiL, hn, h1, fun H1 d s1 nd => q H1 d s1 nd⟩⟩
  refine ⟨_, rfl, _, rfl, _, rfl, .inl ⟨l, L, i, n, r, a1, rfl, hl, lok, hn, h1, fun H1 T v s1 nT hT hrow => ?_⟩⟩
  refine ⟨T, _, rfl, SqT.of hT, rfl, _, _, rfl, _, _, rfl, rfl, ?_⟩
  refine ⟨_, rfl, (by show 1 ≤ sizeLine; decide), fun fl nfl => ?_⟩
  have nflH := Same.free s1 nfl
  refine ⟨fun m σ H' => ∃ (cur : Nat) (zs : List V) (v3 : Option V), σ = [some (.ref l), some (.int (cur : Nat)), some (.str (ind n)), v3, some (.ref fl)] ∧ L.length - cur = m ∧ cur ≤ L.length ∧ zs.length ≤ cur ∧
    MoreE (RdRow (RdRows L d (n + 1)) L n) (RowE (RdRows L d (n + 1)) (RowsE L d (n + 1)) L n) L n cur e ∧ Same H H' ∧ H' fl = some (.lst zs), ⟨L.length - a1, a1, [v], _, rfl, rfl, le1 h1, (by have := lt1 _ _ _ h1; show 1 ≤ a1; omega), h2, Same.trans s1 (Same.new nfl), upd_same⟩, ?_⟩
  rintro m σ H2 ⟨cur, zs, v3, rfl, hm, hcL, hzl, hmore, s2, hfl⟩
  have hl2 := s2 _ _ hl
  refine ⟨_, rfl, _, rfl, _, rfl, l, L, cur, n, rfl, hl2, by omega, fun b hb => ⟨_, rfl, ?_⟩⟩
  cases hmore with
  | here hst hr2 =>
    have eb : b = true := hb.mpr hst
    subst eb
    exact iteT ⟨_, fun σ' H' h => h, ⟨_, rfl, _, rfl, _, rfl, .inr ⟨l, L, cur, n, e, rfl, hl2, lok, hcL, hn, hr2, fun H3 d s3 nd => q H3 d (Same.trans s2 s3) nd⟩⟩⟩
  | @later _ c1 _ r2 hst hr2 hm2 =>
    have eb : b = true := hb.mpr hst
    subst eb
    have lt2 := lt1 _ _ _ hr2
    refine iteT ⟨_, fun σ' H' h => h, ?_⟩
    refine ⟨_, rfl, _, rfl, _, rfl, .inl ⟨l, L, cur, n, r2, c1, rfl, hl2, lok, hn, hr2, fun H3 T2 v2 s3 nT2 hT2 hrow2 => ?_⟩⟩
    refine ⟨T2, _, rfl, SqT.of hT2, rfl, _, _, rfl, _, _, rfl, rfl, ?_⟩
    have hfl3 := s3 _ _ hfl
    have hc : cur < L.length := by
      obtain ⟨z, hz, _⟩ := hst
      exact (List.getElem?_eq_some_iff.mp hz).1
    refine ⟨_, rfl, .inl ⟨rfl, _, SqL.of hfl3⟩, _, rfl, fl, _, _, rfl, rfl, hfl3, big (by omega), ?_⟩
    exact ⟨L.length - c1, by omega, c1, zs ++ [v2], _, rfl, rfl, le1 hr2, by rw [List.length_append]; show zs.length + 1 ≤ c1; omega, hm2, Same.upN (Same.trans s2 s3) nflH, upd_same⟩
end
end Ft
set_option Elab.async false
set_option linter.all false
set_option maxRecDepth 100000
set_option maxHeartbeats 4000000
set_option pp.maxSteps 2500
namespace Ft
open PySem L2
def smallA (v : V) : Prop := isAtom v = true ∧ ∀ z : Str, v = .str z → z.length ≤ 1000
/-- an object of parts that stand where ok says -/
def AnyAt (ok : Addr → Prop) (H : Hp) : Nat → V → Prop
  | 0, v => smallA v
  | d + 1, v => smallA v ∨ (∃ a kd xs, v = .ref a ∧ ok a ∧ H a = some (mkO kd xs) ∧ xs.length ≤ 3 ∧ ∀ x ∈ xs, AnyAt ok H d x) ∨ ∃ a kvs, v = .ref a ∧ ok a ∧ H a = some (.dK kvs) ∧ kvs.length ≤ 3 ∧ (kvs.map (·.1)).Nodup ∧ ∀ kv ∈ kvs, AnyAt ok H d kv.2
theorem AnyAt.to {ok ok' : Addr → Prop} {H H' : Hp} (t : ∀ y o, ok y → H y = some o → ok' y ∧ H' y = some o) : ∀ {d : Nat} {v : V}, AnyAt ok H d v → AnyAt ok' H' d v
  | 0, _, h => h
  | d + 1, v, h => by
    rcases h with h | ⟨a, kd, xs, e, k, ha, hl, hx⟩ | ⟨a, kvs, e, k, ha, hl, hn, hx⟩
    · exact .inl h
    · exact .inr (.inl ⟨a, kd, xs, e, (t _ _ k ha).1, (t _ _ k ha).2, hl, fun x m => AnyAt.to t (hx x m)⟩)
    · exact .inr (.inr ⟨a, kvs, e, (t _ _ k ha).1, (t _ _ k ha).2, hl, hn, fun x m => AnyAt.to t (hx x m)⟩)
theorem mkO_nt {kd : Bool} {xs : List V} : ∀ ps, mkO kd xs ≠ .tbl ps := fun ps z => by cases kd <;> cases z
end Ft
set_option Elab.async false
set_option linter.all false
set_option maxRecDepth 100000
set_option maxHeartbeats 1000000
set_option pp.maxSteps 3000
set_option pp.deepTerms.threshold 8
namespace Ft
open PySem L2 TL
section
variable {P : Program} {w : World} {K : PySem.W.Frag} {mg : Str → Option Value} {base : Heap}
abbrev sReadModules : Stmt := topS 27
theorem scReadModules : FnScope ["text", "lines", "found", "last", "at", "word"] ["text"] (defScope sReadModules) := ⟨rfl, rfl, rfl, by decide +kernel, rfl, by decide +kernel, by decide +kernel⟩
end
end Ft
set_option Elab.async false
set_option linter.all false
set_option maxRecDepth 100000
set_option maxHeartbeats 1000000
set_option pp.maxSteps 3000
set_option pp.deepTerms.threshold 8
namespace Ft
open PySem L2 TL
section
variable {P : Program} {w : World} {K : PySem.W.Frag} {mg : Str → Option Value} {base : Heap}
/-- reading rows, right or wrong, so deep -/
theorem readBoth {fR fS dF CT : Addr} {fdR fdS : FuncData} {tS : Tok} (FR : Fun K "read_row" "read_row" sReadRow fR fdR) (FS : Fun K "read_rows" "read_rows" sReadRows fS fdS) (B : Bl mg) (TF : FldT K w mg dF) (mS : mg "STEP" = some (.str "  " tS)) (eT : ErrT P w K mg base "BadText" "line" ["self", "line"] CT)
    (mR : mg "read_row" = some (.ref fR)) (bR : Binds K fdR ["lines", "at", "indent"] []) (mRs : mg "read_rows" = some (.ref fS)) (bRs : Binds K fdS ["lines", "at", "indent"] [])
    (gIsWritten : Own P w K mg base 2 "is_written" ["field", "part"] spIsWritten) (gNumberOf : Own P w K mg base 1 "number_of" ["part"] spNumberOf) (gStandsAt : Own P w K mg base 1 "stands_at" ["lines", "at", "indent"] spStandsAt) :
    ∀ d : Nat, FnOk P w K mg base CX0 (4 + 2 * d) fS fdS ["lines", "at", "indent"] (spReadRows d) ∧ FnOk P w K mg base (L2N.CX P w) (4 + 2 * d) fS fdS ["lines", "at", "indent"] (spReadRowsE d CT)
  | 0 => by
    have h1 := ok_ReadRow (P := P) (base := base) (d := 0) (k := 2) FR B TF mS (by omega) gIsWritten gNumberOf (own_mk FS mRs bRs fn_false) (fun e h => absurd h (by omega))
    have h2 := ok_ReadRowE (P := P) (base := base) (d := 0) (k := 2) FR B TF mS (by omega) eT gIsWritten gNumberOf (ownE_mk FS mRs bRs fn_false (fn_any fn_false)) (fun e h => absurd h (by omega))
    exact ⟨ok_ReadRows (k := 3) FS B (by omega) gStandsAt (own_mk FR mR bR h1), ok_ReadRowsE (k := 3) FS B (by omega) gStandsAt (ownE_mk FR mR bR h1 h2)⟩
  | d + 1 => by
    obtain ⟨i1, i2⟩ := readBoth FR FS B TF mS eT mR bR mRs bRs gIsWritten gNumberOf gStandsAt d
    have h1 := ok_ReadRow (P := P) (base := base) (d := d + 1) (k := 4 + 2 * d) FR B TF mS (by omega) gIsWritten gNumberOf (own_mk FS mRs bRs i1) (fun e h => by
      have : d = e := by omega
      rw [this])
    have h2 := ok_ReadRowE (P := P) (base := base) (d := d + 1) (k := 4 + 2 * d) FR B TF mS (by omega) eT gIsWritten gNumberOf (ownE_mk FS mRs bRs i1 i2) (fun e h => by
      have : d = e := by omega
      rw [this]
      exact ⟨rfl, rfl⟩)
    exact ⟨ok_ReadRows (k := 4 + 2 * d + 1) FS B (by omega) gStandsAt (own_mk FR mR bR h1), ok_ReadRowsE (k := 4 + 2 * d + 1) FS B (by omega) gStandsAt (ownE_mk FR mR bR h1 h2)⟩
/-- the lines that are read -/
def LinesIn (text : Str) (L : List Str) : Prop := ∃ (ls : List Str) (last : Str), Txt.split text "\n" = ls ++ [last] ∧ L = if last = Str.empty then ls else ls ++ [last ++ (" " : Str)]
def LibAtD (d : Nat) (ok : Addr → Prop) (kk : Bool → Bool → Prop) (H : Hp) (kvs : List (Key × V)) (lib : Lib) : Prop := Paired (fun (kv : Key × V) (m : Str × List Row) => kv.1 = Sum.inr m.1 ∧ RowsAt ok kk H d kv.2 m.2) kvs lib
theorem LibAtD.to {d : Nat} {ok ok' : Addr → Prop} {kk : Bool → Bool → Prop} {H H' : Hp} {kvs : List (Key × V)} {lib : Lib} (h : LibAtD d ok kk H kvs lib) (t : Keep ok ok' H H') : LibAtD d ok' kk H' kvs lib := paired_imp h fun _ _ q => ⟨q.1, q.2.to t⟩
theorem libAtD_new {d : Nat} {ok : Addr → Prop} {kk : Bool → Bool → Prop} {H : Hp} {kvs : List (Key × V)} {lib : Lib} {z : Str} {v : V} {rs : List Row} (h : LibAtD d ok kk H kvs lib) (hn : ∀ m ∈ lib, m.1 ≠ z) (hv : RowsAt ok kk H d v rs) : LibAtD d ok kk H (putK kvs (Sum.inr z) v) (lib ++ [(z, rs)]) := by
  have e : putK kvs (Sum.inr z) v = kvs ++ [(Sum.inr z, v)] := by
    unfold putK
    rw [if_neg]
    intro c
    obtain ⟨kv, hkv, e⟩ := List.any_eq_true.mp c
    obtain ⟨i, hi⟩ := List.getElem?_of_mem hkv
    have hl : kvs.length = lib.length := paired_len h
    have hi2 : i < lib.length := by rw [← hl]; exact (List.getElem?_eq_some_iff.mp hi).1
    obtain ⟨m, hm, q, _⟩ := paired_get h hi
    have e2 := of_decide_eq_true e
    rw [q] at e2
    exact hn m (List.mem_of_getElem? hm) (Sum.inr.inj e2)
  rw [e]
  exact paired_app (R := fun (kv : Key × V) (m : Str × List Row) => kv.1 = Sum.inr m.1 ∧ RowsAt ok kk H d kv.2 m.2) (x := (Sum.inr z, v)) (y := (z, rs)) ⟨rfl, hv⟩ h
def spReadModulesD (d : Nat) : Sp := fun vs H Q _ => ∃ (text : Str) (L : List Str) (lib : Lib), vs = [.str text] ∧ LinesIn text L ∧ text.length ≤ 14000000 ∧ LnOk L ∧ d ≤ 900 ∧ RdMods L (d + 1) 0 Str.empty lib ∧ lib.length ≤ 15000000 ∧
  ∀ H' p kvs, Same H H' → H p = none → H' p = some (.dK kvs) → LibAtD d (fun x => H x = none ∧ x ≠ p) lstK H' kvs lib → Q (.ref p) H'
theorem ok_ReadModulesD {f : Addr} {fd : FuncData} {k d : Nat} {tS : Tok} (F : Fun K "read_modules" "read_modules" sReadModules f fd) (B : Bl mg) (mS : mg "STEP" = some (.str "  " tS)) (hk : 4 + 2 * d ≤ k) (gIsWord : Own P w K mg base 1 "is_word" ["thing"] (spIsWord K))
    (gReadRows : Own P w K mg base (4 + 2 * d) "read_rows" ["lines", "at", "indent"] (spReadRows d)) : FnOk P w K mg base CX0 (k + 1) f fd ["text"] (spReadModulesD d) := by
  refine F.ok scReadModules (fun vs H Q E h => ?_) (fun cdv A outer s H vs Q E hr h => ?_)
  · obtain ⟨t, L, lib, rfl, _⟩ := h
    rfl
  obtain ⟨t, L, lib, rfl, ⟨ls, lastL, hsp, eL⟩, htl, lok, hd9, hrd, hfew, q⟩ := h
  refine ⟨_, (pss_cons (ps_set (i := 1) scReadModules.nd rfl (by first | exact Or.inl rfl | exact Or.inr rfl) (pe_split (pv 0) pe_str))
      (pss_cut (ps_if (pt_cmpR op_eq (pe_ix ix_list (pv 1) (pe_un un_neg pe_int) (fun _ _ => rfl)) pe_str (nomark _)) (pss_one (ps_expr (pe_bm0 PySem.F.plainAttrs_list PySem.F.slot_list_pop PySem.F.type_list_pop mt_pop (pv 1)))) (pss_one (ps_asg (pe_op op_add_str (pe_ix ix_list (pv 1) (pe_un un_neg pe_int) (fun _ _ => rfl)) pe_str) (pg_sub (pv 1) (pe_un un_neg pe_int) set_list))))
      (pss_cons (ps_par3 (i := 2) (j := 3) (l := 4) (by rfl) scReadModules.nd rfl rfl rfl (by decide) (by decide) (by decide) rfl rfl rfl (pa_cons pe_dnewK (pa_cons pe_str (pa_cons pe_int pa_nil))) (by rfl))
      (pss_cons (ps_while PassesOwn.never (PW.pt (pw_or (pt_cmpR op_lt (pv 4) (pe_callB call_len_seq (by rfl) B.len (by decide +kernel) (pa_cons (pv 1) pa_nil)) (nomark _)) (pw_or1 (pt_cmpR op_eq (pv 3) pe_str (nomark _))))) (pss_cons (ps_set (i := 5) scReadModules.nd rfl (by first | exact Or.inl rfl | exact Or.inr rfl) (pe_ifExp (PW.pt (pw_and (pt_cmpR op_lt (pv 4) (pe_callB call_len_seq (by rfl) B.len (by decide +kernel) (pa_cons (pv 1) pa_nil)) (nomark _)) (pw_and1 (pt_val (pe_m1 PySem.F.slot_str_startswith PySem.F.type_str_startswith mt_startswith (pe_ix ix_list (pv 1) (pv 4) (fun _ _ => rfl)) pe_str))))) (pe_slice sl_str (pe_ix ix_list (pv 1) (pv 4) (fun _ _ => rfl)) (po_some pe_int) po_none) pe_str))
      (pss_cons (ps_if (PW.pt (pw_or (pt_not (pt_val (pe_own gIsWord (hr.mono (by omega)) (by rfl) (pa_cons (pv 5) pa_nil)))) (pw_or1 (pt_cmpR op_le_str (pv 5) (pv 3) (nomark _))))) (pss_one ps_never) pss_nil)
      (pss_cons (ps_asg (pe_own gReadRows (hr.mono (by omega)) (by rfl) (pa_cons (pv 1) (pa_cons (pe_op op_add (pv 4) pe_int) (pa_cons (pe_glob (v := .str "  ") (by rfl) mS ⟨_, rfl⟩) pa_nil)))) (pg_tup (by rfl) (pgs_cons (pg_sub (pv 2) (pv 5) (set_dict (hu_of hr))) (pgs_cons (pg_name (i := 4) scReadModules.nd rfl (by first | exact Or.inl rfl | exact Or.inr rfl)) pgs_nil))))
      (pss_one (ps_set (i := 3) scReadModules.nd rfl (by first | exact Or.inl rfl | exact Or.inr rfl) (pv 5)))))))
      (pss_one (ps_ret (pv 2))))))), ?_⟩
  have bg : sizeLine ≥ 16777216 := by decide
  have all := lok.all
  refine ⟨_, rfl, ⟨_, rfl⟩, _, _, rfl, rfl, (by decide +kernel), (by omega), fun l nl => ?_⟩
  rw [hsp]
  have s1 : Same H (upd H l (.lst ((ls ++ [lastL]).map V.str))) := Same.new nl
  have hl1 : (upd H l (.lst ((ls ++ [lastL]).map V.str))) l = some (.lst (ls.map V.str ++ [.str lastL])) := by rw [upd_same, List.map_append]; rfl
  generalize hG1 : upd H l _ = G1 at *
  refine ⟨fun σ H' => σ = [some (.str t), some (.ref l), none, none, none, none] ∧ Same H H' ∧ H' l = some (.lst (L.map V.str)), ?_, ?_⟩
  · have lastlen : lastL.length ≤ 14000002 := by
      have h4 := PyProof.Rows.split_weight t "\n" (by decide +kernel)
      have h3 : lastL.length ≤ szL (Txt.split t "\n") := mem_szL (by rw [hsp]; simp)
      have : szL (Txt.split t "\n") ≤ t.length + 1 := h4
      omega
    refine ⟨_, rfl, 1, rfl, l, _, -1, _, rfl, rfl, SqL.of hl1, atI_last _ _, rfl, _, rfl, ?_⟩
    by_cases he : lastL = Str.empty
    · rw [if_pos he] at eL
      rw [decide_eq_true (by rw [he]; rfl)]
      refine iteT ⟨_, rfl, .inl ⟨rfl, _, SqL.of hl1⟩, l, _, .str lastL, rfl, rfl, hl1, (by rw [List.length_append, List.getElem?_append_right (by simp)]; simp), rfl, Same.upN s1 nl, ?_⟩
      rw [upd_same, List.dropLast_concat, eL]
    · rw [if_neg he] at eL
      rw [decide_eq_false (show ¬ V.str lastL = V.str ("" : Str) from fun z => he (V.str.inj z))]
      have l1 : (" " : Str).length = 1 := by decide +kernel
      refine iteF ⟨_, rfl, 1, rfl, l, _, -1, _, rfl, rfl, SqL.of hl1, atI_last _ _, _, _, rfl, rfl, by omega, _, rfl, 1, rfl, l, _, -1, ls.length, rfl, rfl, hl1, ?_, rfl, Same.upN s1 nl, ?_⟩
      · unfold ixN
        rw [show (ls.map V.str ++ [V.str lastL]).length = ls.length + 1 by simp, if_neg (by decide), if_pos (by omega)]
        congr 1
        omega
      · rw [upd_same, eL, List.map_append]
        have : (ls.map V.str ++ [V.str lastL]).set ls.length (V.str (lastL ++ (" " : Str))) = ls.map V.str ++ [V.str (lastL ++ (" " : Str))] := by
          rw [List.set_append_right _ _ (by rw [List.length_map]; exact Nat.le_refl _), List.length_map, Nat.sub_self]
          rfl
        rw [this]
        rfl
  rintro σ G2 ⟨rfl, s2, hl2⟩
  refine fun fd nfd => ⟨_, _, _, rfl, ?_⟩
  have nfdH : H fd = none := Same.free s2 nfd
  have s3 : Same H (upd G2 fd (.dK [])) := Same.trans s2 (Same.new nfd)
  have hl3 : (upd G2 fd (.dK [])) l = some (.lst (L.map V.str)) := Same.new nfd _ _ hl2
  have fdl : fd ≠ l := fun e => by rw [e, hl2] at nfd; cases nfd
  refine ⟨fun m σ H' => ∃ (cur : Nat) (last : Str) (done rest : Lib) (kvs : List (Key × V)) (v5 : Option V), σ = [some (.str t), some (.ref l), some (.ref fd), some (.str last), some (.int (cur : Nat)), v5] ∧ rest.length = m ∧ lib = done ++ rest ∧ RdMods L (d + 1) cur last rest ∧
    Same H H' ∧ H' l = some (.lst (L.map V.str)) ∧ H' fd = some (.dK kvs) ∧ LibAtD d (fun x => H x = none ∧ x ≠ fd) lstK H' kvs done ∧ last.length ≤ 8 ∧ (∀ m ∈ done, m.1.cps.toList < last.cps.toList ∨ m.1 = last), ⟨lib.length, 0, Str.empty, [], lib, [], none, rfl, rfl, rfl, hrd, s3, hl3, upd_same, .nil, Nat.zero_le _, (fun m hm => by cases hm)⟩, ?_⟩
  rintro m σ H1 ⟨cur, last, done, rest, kvs, v5, rfl, hm, hlib, hrd, sm, hl, hfd, hla, hlast, hlt⟩
  refine ⟨_, rfl, _, rfl, l, _, rfl, .inl (SqL.of hl), _, _, rfl, rfl, _, rfl, ?_⟩
  rw [List.length_map]
  cases hrd with
  | done e1 e2 =>
    rw [decide_eq_false (by omega)]
    refine iteF ⟨_, rfl, rfl, _, rfl, ?_⟩
    rw [decide_eq_false (show ¬ V.str last = V.str ("" : Str) from fun z => e2 (V.str.inj z))]
    rw [List.append_nil] at hlib
    subst hlib
    exact iteF ⟨_, rfl, q _ fd kvs sm nfdH hfd hla⟩
  | @step _ at1 _ w0 rs lib2 hz hw hlt2 hR hM =>
    have hc : cur < L.length := (List.getElem?_eq_some_iff.mp hz).1
    rw [decide_eq_true (by omega)]
    refine iteT (iteT ⟨_, fun σ' H' h => h, ?_⟩)
    have ixc : atI (L.map V.str) (cur : Int) = some (.str (("module " : Str) ++ w0)) := atI_nat (by rw [List.getElem?_map, hz]; rfl)
    have lz := lok.len _ (List.mem_of_getElem? hz)
    have w8 : w0.length ≤ 8 := by have := (word_signs hw).2.2; rw [len_tl]; exact this
    refine ⟨_, rfl, _, rfl, l, _, rfl, .inl (SqL.of hl), _, _, rfl, rfl, _, rfl, ?_⟩
    rw [List.length_map, decide_eq_true (by omega)]
    refine iteT ⟨_, rfl, _, rfl, l, _, _, _, rfl, rfl, SqL.of hl, ixc, ⟨_, rfl⟩, _, _, rfl, rfl, _, rfl, ?_⟩
    rw [starts_app]
    refine iteT ⟨_, rfl, _, rfl, l, _, _, _, rfl, rfl, SqL.of hl, ixc, 7, rfl, _, rfl, by omega, ?_⟩
    have e7 : cutS (("module " : Str) ++ w0) (some 7) none = w0 := by
      have := cut_app ("module " : Str) w0
      have l7 : ("module " : Str).length = 7 := by decide +kernel
      rw [l7] at this
      exact this
    rw [e7]
    refine ⟨_, rfl, .str w0, rfl, .inl ⟨w0, rfl, by omega⟩, fun H2 s5 => ⟨_, rfl, ?_⟩⟩
    rw [show wordV (.str w0) = isW w0 from rfl, hw]
    refine iteF ⟨_, rfl, _, rfl, _, _, rfl, rfl, _, rfl, ?_⟩
    rw [decide_eq_true hlt2]
    have hl5 := s5 _ _ hl
    refine iteF ⟨_, rfl, _, rfl, _, _, rfl, rfl, l, L, cur + 1, 1, rs, at1, (by rw [ind_one]; rfl), hl5, lok, by omega, hR, fun H3 T v s6 nT hT hrows => ?_⟩
    have s56 := Same.trans s5 s6
    have hfd3 := s56 _ _ hfd
    have lkv : kvs.length = done.length := paired_len hla
    have ldn : done.length ≤ 15000000 := by
      have := congrArg List.length hlib
      rw [List.length_append] at this
      omega
    refine ⟨T, _, rfl, SqT.of hT, rfl, _, _, rfl, _, rfl, _, rfl, fd, _, rfl, DPut.k (k := Sum.inr w0) hfd3 (big (by omega)), _, _, rfl, rfl, ?_⟩
    dsimp only
    have lt_w : ∀ m ∈ done, m.1.cps.toList < w0.cps.toList := fun m hm => (hlt m hm).elim (fun h => List.lt_trans h hlt2) (fun h => by rw [h]; exact hlt2)
    have ep : ∀ m ∈ done, m.1 ≠ w0 := fun m hm e => by
      have := lt_w m hm
      rw [e] at this
      exact absurd this (List.lt_irrefl _)
    have nk : ∀ x kd xs, (H2 x = none) → H3 x = some (mkO kd xs) → (H x = none ∧ x ≠ fd) ∧ (upd H3 fd (.dK (putK kvs (Sum.inr w0) v))) x = some (mkO kd xs) := fun x kd xs k e => by
      have xf : x ≠ fd := fun z => by rw [z, s5 _ _ hfd] at k; cases k
      exact ⟨⟨Same.free (Same.trans sm s5) k, xf⟩, by rw [upd_ne xf]; exact e⟩
    have ok1 : Keep (fun x => H x = none ∧ x ≠ fd) (fun x => H x = none ∧ x ≠ fd) H1 (upd H3 fd (.dK (putK kvs (Sum.inr w0) v))) := fun x kd xs k e => ⟨k, by rw [upd_ne k.2]; exact s56 _ _ e⟩
    have hla2 := libAtD_new (z := w0) (hla.to ok1) ep (hrows.to nk)
    refine ⟨_, rfl, lib2.length, by rw [← hm, List.length_cons]; omega, at1, w0, done ++ [(w0, rs)], lib2, _, _, rfl, rfl, by rw [hlib]; simp, hM, Same.upN (Same.trans sm s56) nfdH, by rw [upd_ne (Ne.symm fdl)]; exact s6 _ _ hl5, upd_same, hla2, w8, fun m hm => ?_⟩
    rcases List.mem_append.mp hm with h | h
    · exact .inl (lt_w m h)
    · rw [List.mem_singleton.mp h]
      exact .inr rfl
def spReadModulesE (d : Nat) (CT : Addr) : Sp := fun vs H _ E => ∃ (text : Str) (L : List Str) (e : Nat), vs = [.str text] ∧ LinesIn text L ∧ text.length ≤ 14000000 ∧ LnOk L ∧ d ≤ 900 ∧ ModsE L (d + 1) 0 Str.empty e ∧ XBad CT "line" (.int (e : Nat)) H E
theorem ok_ReadModulesE {f CT : Addr} {fd : FuncData} {k d : Nat} {tS : Tok} (F : Fun K "read_modules" "read_modules" sReadModules f fd) (B : Bl mg) (mS : mg "STEP" = some (.str "  " tS)) (eT : ErrT P w K mg base "BadText" "line" ["self", "line"] CT) (hk : 4 + 2 * d ≤ k) (gIsWord : Own P w K mg base 1 "is_word" ["thing"] (spIsWord K))
    (gEReadRows : OwnE P w K mg base (4 + 2 * d) "read_rows" ["lines", "at", "indent"] (fun vs H Q E => spReadRows d vs H Q E ∨ spReadRowsE d CT vs H Q E)) : FnOk P w K mg base (L2N.CX P w) (k + 1) f fd ["text"] (spReadModulesE d CT) := by
  refine okN F scReadModules (fun vs H Q E h => ?_) (fun cdv A outer s H vs Q E hr h => ?_)
  · obtain ⟨t, L, e, rfl, _⟩ := h
    rfl
  obtain ⟨t, L, e, rfl, ⟨ls, lastL, hsp, eL⟩, htl, lok, hd9, hrd, q⟩ := h
  refine ⟨_, (pss_cons (ps_set (i := 1) scReadModules.nd rfl (by first | exact Or.inl rfl | exact Or.inr rfl) (pe_split (pv 0) pe_str))
      (pss_cut (ps_if (pt_cmpR op_eq (pe_ix ix_list (pv 1) (pe_un un_neg pe_int) (fun _ _ => rfl)) pe_str (nomark _)) (pss_one (ps_expr (pe_bm0 PySem.F.plainAttrs_list PySem.F.slot_list_pop PySem.F.type_list_pop mt_pop (pv 1)))) (pss_one (ps_asg (pe_op op_add_str (pe_ix ix_list (pv 1) (pe_un un_neg pe_int) (fun _ _ => rfl)) pe_str) (pg_sub (pv 1) (pe_un un_neg pe_int) set_list))))
      (pss_cons (ps_par3 (i := 2) (j := 3) (l := 4) (by rfl) scReadModules.nd rfl rfl rfl (by decide) (by decide) (by decide) rfl rfl rfl (pa_cons pe_dnewK (pa_cons pe_str (pa_cons pe_int pa_nil))) (by rfl))
      (pss_cons (ps_while (L2.passes_of rfl) (PW.pt (pw_or (pt_cmpR op_lt (pv 4) (pe_callB call_len_seq (by rfl) B.len (by decide +kernel) (pa_cons (pv 1) pa_nil)) (nomark _)) (pw_or1 (pt_cmpR op_eq (pv 3) pe_str (nomark _))))) (pss_cons (ps_set (i := 5) scReadModules.nd rfl (by first | exact Or.inl rfl | exact Or.inr rfl) (pe_ifExp (PW.pt (pw_and (pt_cmpR op_lt (pv 4) (pe_callB call_len_seq (by rfl) B.len (by decide +kernel) (pa_cons (pv 1) pa_nil)) (nomark _)) (pw_and1 (pt_val (pe_m1 PySem.F.slot_str_startswith PySem.F.type_str_startswith mt_startswith (pe_ix ix_list (pv 1) (pv 4) (fun _ _ => rfl)) pe_str))))) (pe_slice sl_str (pe_ix ix_list (pv 1) (pv 4) (fun _ _ => rfl)) (po_some pe_int) po_none) pe_str))
      (pss_cons (ps_if (PW.pt (pw_or (pt_not (pt_val (pe_own gIsWord (hr.mono (by omega)) (by rfl) (pa_cons (pv 5) pa_nil)))) (pw_or1 (pt_cmpR op_le_str (pv 5) (pv 3) (nomark _))))) (pss_one (ps_raiseE rfl eT (hr.mono (by omega)) (L2N.takes_of rfl rfl rfl rfl) (pa_cons (pe_op op_add (pv 4) pe_int) pa_nil))) pss_nil)
      (pss_cons (ps_asg (pe_ownE gEReadRows (hr.mono (by omega)) (L2N.takes_of rfl rfl rfl rfl) (by rfl) (pa_cons (pv 1) (pa_cons (pe_op op_add (pv 4) pe_int) (pa_cons (pe_glob (v := .str "  ") (by rfl) mS ⟨_, rfl⟩) pa_nil)))) (pg_tup (by rfl) (pgs_cons (pg_sub (pv 2) (pv 5) (set_dict (hu_of hr))) (pgs_cons (pg_name (i := 4) scReadModules.nd rfl (by first | exact Or.inl rfl | exact Or.inr rfl)) pgs_nil))))
      (pss_one (ps_set (i := 3) scReadModules.nd rfl (by first | exact Or.inl rfl | exact Or.inr rfl) (pv 5)))))))
      (pss_one (ps_ret (pv 2))))))), ?_⟩
  have bg : sizeLine ≥ 16777216 := by decide
  have all := lok.all
  refine ⟨_, rfl, ⟨_, rfl⟩, _, _, rfl, rfl, (by decide +kernel), (by omega), fun l nl => ?_⟩
  rw [hsp]
  have s1 : Same H (upd H l (.lst ((ls ++ [lastL]).map V.str))) := Same.new nl
  have hl1 : (upd H l (.lst ((ls ++ [lastL]).map V.str))) l = some (.lst (ls.map V.str ++ [.str lastL])) := by rw [upd_same, List.map_append]; rfl
  generalize hG1 : upd H l _ = G1 at *
  refine ⟨fun σ H' => σ = [some (.str t), some (.ref l), none, none, none, none] ∧ Same H H' ∧ H' l = some (.lst (L.map V.str)), ?_, ?_⟩
  · have lastlen : lastL.length ≤ 14000002 := by
      have h4 := PyProof.Rows.split_weight t "\n" (by decide +kernel)
      have h3 : lastL.length ≤ szL (Txt.split t "\n") := mem_szL (by rw [hsp]; simp)
      have : szL (Txt.split t "\n") ≤ t.length + 1 := h4
      omega
    refine ⟨_, rfl, 1, rfl, l, _, -1, _, rfl, rfl, SqL.of hl1, atI_last _ _, rfl, _, rfl, ?_⟩
    by_cases he : lastL = Str.empty
    · rw [if_pos he] at eL
      rw [decide_eq_true (by rw [he]; rfl)]
      refine iteT ⟨_, rfl, .inl ⟨rfl, _, SqL.of hl1⟩, l, _, .str lastL, rfl, rfl, hl1, (by rw [List.length_append, List.getElem?_append_right (by simp)]; simp), rfl, Same.upN s1 nl, ?_⟩
      rw [upd_same, List.dropLast_concat, eL]
    · rw [if_neg he] at eL
      rw [decide_eq_false (show ¬ V.str lastL = V.str ("" : Str) from fun z => he (V.str.inj z))]
      have l1 : (" " : Str).length = 1 := by decide +kernel
      refine iteF ⟨_, rfl, 1, rfl, l, _, -1, _, rfl, rfl, SqL.of hl1, atI_last _ _, _, _, rfl, rfl, by omega, _, rfl, 1, rfl, l, _, -1, ls.length, rfl, rfl, hl1, ?_, rfl, Same.upN s1 nl, ?_⟩
      · unfold ixN
        rw [show (ls.map V.str ++ [V.str lastL]).length = ls.length + 1 by simp, if_neg (by decide), if_pos (by omega)]
        congr 1
        omega
      · rw [upd_same, eL, List.map_append]
        have : (ls.map V.str ++ [V.str lastL]).set ls.length (V.str (lastL ++ (" " : Str))) = ls.map V.str ++ [V.str (lastL ++ (" " : Str))] := by
          rw [List.set_append_right _ _ (by rw [List.length_map]; exact Nat.le_refl _), List.length_map, Nat.sub_self]
          rfl
        rw [this]
        rfl
  rintro σ G2 ⟨rfl, s2, hl2⟩
  refine fun fd nfd => ⟨_, _, _, rfl, ?_⟩
  have nfdH : H fd = none := Same.free s2 nfd
  have s3 : Same H (upd G2 fd (.dK [])) := Same.trans s2 (Same.new nfd)
  have hl3 : (upd G2 fd (.dK [])) l = some (.lst (L.map V.str)) := Same.new nfd _ _ hl2
  have fdl : fd ≠ l := fun e => by rw [e, hl2] at nfd; cases nfd
  refine ⟨fun m σ H' => ∃ (cur : Nat) (last : Str) (kvs : List (Key × V)) (v5 : Option V), σ = [some (.str t), some (.ref l), some (.ref fd), some (.str last), some (.int (cur : Nat)), v5] ∧ L.length - cur = m ∧ cur ≤ L.length ∧ kvs.length ≤ cur ∧ ModsE L (d + 1) cur last e ∧
    Same H H' ∧ H' l = some (.lst (L.map V.str)) ∧ H' fd = some (.dK kvs) ∧ last.length ≤ 8, ⟨L.length - 0, 0, Str.empty, [], none, rfl, rfl, Nat.zero_le _, Nat.le_refl _, hrd, s3, hl3, upd_same, Nat.zero_le _⟩, ?_⟩
  rintro m σ H1 ⟨cur, last, kvs, v5, rfl, hm, hcL, hkv, hrd, sm, hl, hfd, hlast⟩
  refine ⟨_, rfl, _, rfl, l, _, rfl, .inl (SqL.of hl), _, _, rfl, rfl, _, rfl, ?_⟩
  rw [List.length_map]
  have minj : ∀ {a b : Str}, ("module " : Str) ++ a = ("module " : Str) ++ b → a = b := fun {a b} h => by
    have := congrArg (fun z => cutS z (some ((("module " : Str).length : Nat) : Int)) none) h
    simpa only [cut_app] using this
  have hin : cur < L.length ∨ last = Str.empty := by
    cases hrd with
    | bad h _ => exact h
    | here h _ _ _ => exact .inl (List.getElem?_eq_some_iff.mp h).1
    | later h _ _ _ _ => exact .inl (List.getElem?_eq_some_iff.mp h).1
  by_cases hc0 : cur < L.length
  · rw [decide_eq_true (by omega)]
    refine iteT (iteT ⟨_, fun σ' H' h => h, ?_⟩)
    have l7 : ("module " : Str).length = 7 := by decide +kernel
    by_cases hmod : ∃ w0, L[cur]? = some (("module " : Str) ++ w0)
    · obtain ⟨w0, hz⟩ := hmod
      have hc : cur < L.length := (List.getElem?_eq_some_iff.mp hz).1
      have ixc : atI (L.map V.str) (cur : Int) = some (.str (("module " : Str) ++ w0)) := atI_nat (by rw [List.getElem?_map, hz]; rfl)
      have lz := lok.len _ (List.mem_of_getElem? hz)
      have lw : w0.length ≤ 15000000 := by rw [Str.length_append] at lz; omega
      refine ⟨_, rfl, _, rfl, l, _, rfl, .inl (SqL.of hl), _, _, rfl, rfl, _, rfl, ?_⟩
      rw [List.length_map, decide_eq_true (by omega)]
      refine iteT ⟨_, rfl, _, rfl, l, _, _, _, rfl, rfl, SqL.of hl, ixc, ⟨_, rfl⟩, _, _, rfl, rfl, _, rfl, ?_⟩
      rw [starts_app]
      refine iteT ⟨_, rfl, _, rfl, l, _, _, _, rfl, rfl, SqL.of hl, ixc, 7, rfl, _, rfl, by omega, ?_⟩
      have e7 : cutS (("module " : Str) ++ w0) (some 7) none = w0 := by
        have := cut_app ("module " : Str) w0
        rw [l7] at this
        exact this
      rw [e7]
      refine ⟨_, rfl, .str w0, rfl, .inl ⟨w0, rfl, by omega⟩, fun H2 s5 => ⟨_, rfl, ?_⟩⟩
      rw [show wordV (.str w0) = isW w0 from rfl]
      have sm5 := Same.trans sm s5
      cases hw : isW w0 with
      | false =>
        have ee : e = cur + 1 := by
          cases hrd with
          | bad _ _ => rfl
          | here h h2 _ _ => rw [hz] at h; rw [minj (Option.some.inj h), h2] at hw; cases hw
          | later h h2 _ _ _ => rw [hz] at h; rw [minj (Option.some.inj h), h2] at hw; cases hw
        subst ee
        exact iteT (iteT ⟨_, rfl, _, _, rfl, rfl, mkE fun d nd => q _ d sm5 nd⟩)
      | true =>
      have w8 : w0.length ≤ 8 := by have := (word_signs hw).2.2; rw [len_tl]; exact this
      refine iteF ⟨_, rfl, _, rfl, _, _, rfl, rfl, _, rfl, ?_⟩
      by_cases hlt : last.cps.toList < w0.cps.toList
      · rw [decide_eq_true hlt]
        have hl5 := s5 _ _ hl
        cases hrd with
        | bad _ h => exact absurd hlt (h w0 hz hw)
        | here h h2 h3 hE =>
          rw [hz] at h
          obtain rfl := minj (Option.some.inj h)
          exact iteF ⟨_, rfl, _, rfl, _, _, rfl, rfl, .inr ⟨l, L, cur + 1, 1, e, (by rw [ind_one]; rfl), hl5, lok, hc, by omega, hE, fun H3 d s6 nd => q _ d (Same.trans sm5 s6) nd⟩⟩
        | @later _ at1 _ _ w1 rs h h2 h3 hR hM =>
          rw [hz] at h
          obtain rfl := minj (Option.some.inj h)
          refine iteF ⟨_, rfl, _, rfl, _, _, rfl, rfl, .inl ⟨l, L, cur + 1, 1, rs, at1, (by rw [ind_one]; rfl), hl5, lok, by omega, hR, fun H3 T v s6 nT hT hrows => ?_⟩⟩
          have s56 := Same.trans s5 s6
          have hfd3 := s56 _ _ hfd
          have lt1 := rdRows_lt hR
          have le1 := rdRows_len hR
          refine ⟨T, _, rfl, SqT.of hT, rfl, _, _, rfl, _, rfl, _, rfl, fd, _, rfl, DPut.k (k := Sum.inr w0) hfd3 (big (by omega)), _, _, rfl, rfl, ?_⟩
          dsimp only
          have lp : (putK kvs (Sum.inr w0) v).length ≤ kvs.length + 1 := by
            unfold putK
            split
            · rw [List.length_map]; exact Nat.le_succ _
            · rw [List.length_append]; exact Nat.le_refl _
          exact ⟨_, rfl, L.length - at1, by omega, at1, w0, _, _, rfl, rfl, le1, by omega, hM, Same.upN (Same.trans sm s56) nfdH, by rw [upd_ne (Ne.symm fdl)]; exact s6 _ _ hl5, upd_same, w8⟩
      · have ee : e = cur + 1 := by
          cases hrd with
          | bad _ _ => rfl
          | here h h2 h3 _ => rw [hz] at h; rw [minj (Option.some.inj h)] at hlt; exact absurd h3 hlt
          | later h h2 h3 _ _ => rw [hz] at h; rw [minj (Option.some.inj h)] at hlt; exact absurd h3 hlt
        subst ee
        rw [decide_eq_false hlt]
        exact iteT ⟨_, rfl, _, _, rfl, rfl, mkE fun d nd => q _ d sm5 nd⟩
    · have ee : e = cur + 1 := by
        cases hrd with
        | bad _ _ => rfl
        | here h _ _ _ => exact absurd ⟨_, h⟩ hmod
        | later h _ _ _ _ => exact absurd ⟨_, h⟩ hmod
      subst ee
      refine ⟨_, rfl, _, rfl, l, _, rfl, .inl (SqL.of hl), _, _, rfl, rfl, _, rfl, ?_⟩
      rw [List.length_map]
      rw [decide_eq_true (by omega)]
      have hz : L[cur]? = some L[cur] := List.getElem?_eq_getElem hc0
      generalize L[cur] = z at hz
      have ixc : atI (L.map V.str) (cur : Int) = some (.str z) := atI_nat (by rw [List.getElem?_map, hz]; rfl)
      refine iteT ⟨_, rfl, _, rfl, l, _, _, _, rfl, rfl, SqL.of hl, ixc, ⟨_, rfl⟩, _, _, rfl, rfl, _, rfl, ?_⟩
      · have hs : Txt.startswith z ("module " : Str) = false := by
          cases hs : Txt.startswith z ("module " : Str) with
          | false => rfl
          | true =>
            rw [starts_pre] at hs
            obtain ⟨r, hr⟩ := pre_iff.mp hs
            exact absurd ⟨⟨r.toArray⟩, by rw [hz]; exact congrArg some (ext_tl (by rw [tl_append, tl_mk]; exact hr))⟩ hmod
        rw [hs]
        refine iteF ?_
        refine ⟨_, rfl, .str Str.empty, rfl, .inl ⟨_, rfl, Nat.zero_le _⟩, fun H2 s5 => ⟨_, rfl, ?_⟩⟩
        rw [show wordV (.str Str.empty) = false from rfl]
        exact iteT (iteT ⟨_, rfl, _, _, rfl, rfl, mkE fun d nd => q _ d (Same.trans sm s5) nd⟩)
  · have hl0 : last = Str.empty := hin.elim (fun h => absurd h hc0) id
    have ee : e = cur + 1 := by
      cases hrd with
      | bad _ _ => rfl
      | here h _ _ _ => exact absurd (List.getElem?_eq_some_iff.mp h).1 hc0
      | later h _ _ _ _ => exact absurd (List.getElem?_eq_some_iff.mp h).1 hc0
    subst ee
    rw [decide_eq_false (by omega)]
    refine iteF ⟨_, rfl, rfl, _, rfl, ?_⟩
    rw [decide_eq_true (show V.str last = V.str ("" : Str) by rw [hl0]; rfl)]
    refine iteT ⟨_, fun σ' H' h => h, ?_⟩
    refine ⟨_, rfl, _, rfl, l, _, rfl, .inl (SqL.of hl), _, _, rfl, rfl, _, rfl, ?_⟩
    rw [List.length_map, decide_eq_false (by omega)]
    refine iteF ?_
    refine ⟨_, rfl, .str Str.empty, rfl, .inl ⟨_, rfl, Nat.zero_le _⟩, fun H2 s5 => ⟨_, rfl, ?_⟩⟩
    rw [show wordV (.str Str.empty) = false from rfl]
    exact iteT (iteT ⟨_, rfl, _, _, rfl, rfl, mkE fun d nd => q _ d (Same.trans sm s5) nd⟩)
end
end Ft
set_option Elab.async false
set_option linter.all false
set_option maxRecDepth 100000
set_option maxHeartbeats 1000000
set_option pp.maxSteps 3000
set_option pp.deepTerms.threshold 8
namespace Ft
open PySem L2 TL
theorem cut_neg1 (xs : List V) : cutV xs none (some (-1)) = xs.dropLast := by
  unfold cutV
  rw [HT.sIx_none, List.drop_zero, Nat.sub_zero, List.dropLast_eq_take]
  have e : HT.sIx xs.length xs.length (some (-1)) = xs.length - 1 := by
    unfold HT.sIx
    simp
    omega
  rw [e]
theorem cut_starts2 (z y : Str) {k : Nat} (hk : (tl y).length = k) : decide (V.str (cutS z none (some (k : Int))) = V.str y) = Txt.startswith z y := by
  rw [starts_pre]
  unfold pre
  rw [hk]
  by_cases h : (tl z).take k = tl y
  · rw [h, beq_self_eq_true]
    exact decide_eq_true (congrArg V.str (ext_tl (by rw [tl_cutHeadN, h])))
  · rw [beq_eq_false_iff_ne.mpr h]
    refine decide_eq_false fun c => h ?_
    have := congrArg tl (V.str.inj c)
    rw [tl_cutHeadN] at this
    exact this
theorem mod_inj {a b : Str} (h : ("module " : Str) ++ a = ("module " : Str) ++ b) : a = b := by
  have := congrArg (fun z => cutS z (some ((("module " : Str).length : Nat) : Int)) none) h
  simpa only [cut_app] using this
theorem starts_mod {z : Str} (h : Txt.startswith z ("module " : Str) = true) : ∃ w0, z = ("module " : Str) ++ w0 := by
  rw [starts_pre] at h
  obtain ⟨r, hr⟩ := pre_iff.mp h
  exact ⟨⟨r.toArray⟩, ext_tl (by rw [tl_append, tl_mk]; exact hr)⟩
/-- how the law stands ahead of a module -/
def RlIv (H : Hp) (t : Str) (wl m l : Addr) (ls : List Str) (lst : Str) (d : Nat) (EndR : Lib → Prop) (EndE : Nat → Prop) (fnd : Addr) (k : Nat) (σ : St) (H' : Hp) : Prop :=
  ∃ (cur : Nat) (bd : Bool) (last : Str) (done : Lib) (kvs : List (Key × V)) (v5 v6 : Option V), σ = [some (.str t), some (.ref wl), some (.ref m), some (.ref fnd), some (.str last), v5, v6] ∧ Same H H' ∧ MAt H' m l ls cur bd ∧ H' wl = some (.lst ((ls ++ [lst]).map V.str)) ∧ H' fnd = some (.dK kvs) ∧ last.length ≤ 8 ∧ kvs.length ≤ cur ∧
    ((bd = false ∧ cur ≤ ls.length ∧ k = ls.length - cur + 1 ∧ (kvs.length = 0 ↔ last = Str.empty) ∧ LibAtD d (fun x => H x = none ∧ x ≠ fnd) lawK H' kvs done ∧ (∀ m ∈ done, m.1.cps.toList < last.cps.toList ∨ m.1 = last) ∧ ((∃ rest, RdMods ls (d + 1) cur last rest ∧ EndR (done ++ rest)) ∨ ∃ e, ModsE ls (d + 1) cur last e ∧ EndE e)) ∨ (bd = true ∧ k = 0 ∧ EndE (cur + 1)))
theorem ite_or {c : Bool} {A B P : Prop} (h1 : P → A) (h2 : c = false → P → B) (h : P) : if c = true then A else B := by
  cases c with
  | true => exact iteT (h1 h)
  | false => exact iteF (h2 rfl h)
/-- d == {} -/
def rEqD0 : R2 := fun x y H Q => ∃ a b ks, x = .ref a ∧ y = .ref b ∧ H a = some (.dK ks) ∧ H b = some (.dK []) ∧ Q (.bl (ks.length == 0)) H
theorem op_eqD0 {X : Cx} (hu : X.A.units < cLine) : OpR X (compareOp .Eq) rEqD0 := by
  intro pins s σ H x y v u Q I rx ry h
  obtain ⟨a, b, ks, rfl, rfl, ea, eb, q⟩ := h
  obtain rfl : v = Value.ref a := rx
  obtain rfl : u = Value.ref b := ry
  obtain ⟨_, ya, va, ra, da⟩ := (show ObjOk X.prog X.w H s.heap a (.dK ks) from I.hok a _ ea)
  obtain ⟨_, yb, vb, rb, db⟩ := (show ObjOk X.prog X.w H s.heap b (.dK []) from I.hok b _ eb)
  have e0 : vb = [] := by cases rb; rfl
  subst e0
  refine PySem.W.keq_eq (knd := mixKind X.prog X.w) (r := true) ya yb da db hu (fun e => ?_) (fin_bl I q (by rw [Bool.and_true, ra.length]; rfl))
  cases va with
  | nil => exact .nil
  | cons _ _ => cases e
section
variable {P : Program} {w : World} {K : PySem.W.Frag} {mg : Str → Option Value} {base : Heap}
abbrev sLRead : Stmt := topS 51
theorem scLRead : FnScope ["_law_text_here", "_law_lines_here", "_law_m", "_law_found", "_law_last", "_law_line_here", "_law_word_here"] ["_law_text_here"] (defScope sLRead) := ⟨rfl, rfl, rfl, by decide +kernel, rfl, by decide +kernel, by decide +kernel⟩
def spLRead (d : Nat) : Sp := fun vs H Q _ => ∃ (text : Str) (ls : List Str) (lst : Str), vs = [.str text] ∧ Txt.split text "\n" = ls ++ [lst] ∧ text.length ≤ 14000000 ∧ LnOk ls ∧ NumSh ls ∧ d ≤ 900 ∧
  ((∃ e, (ModsE ls (d + 1) 0 Str.empty e ∨ (lst ≠ Str.empty ∧ e = ls.length + 1 ∧ ∃ lib, RdMods ls (d + 1) 0 Str.empty lib)) ∧ ∀ H', Same H H' → Q (.int (e : Nat)) H') ∨
    (lst = Str.empty ∧ ∃ lib, RdMods ls (d + 1) 0 Str.empty lib ∧ ∀ H' p kvs, Same H H' → H p = none → H' p = some (.dK kvs) → LibAtD d (fun x => H x = none ∧ x ≠ p) lawK H' kvs lib → Q (.ref p) H'))
theorem ok_LRead {f : Addr} {fd : FuncData} {k d : Nat} (F : Fun K "_law_read" "_law_read" sLRead f fd) (B : Bl mg) (hk : 1 ≤ k) (gLLine : Own P w K mg base 1 "_law_line" ["_law_m"] spLLine)
    (gLIsWord : Own P w K mg base 1 "_law_is_word" ["_law_thing"] (spLIsWord K)) (gLReadBlock : Own P w K mg base k "_law_read_block" ["_law_m", "_law_deep"] (spLReadBlock d)) : FnOk P w K mg base CX0 (k + 1) f fd ["_law_text_here"] (spLRead d) := by
  refine F.ok scLRead (fun vs H Q E h => ?_) (fun cdv A outer s H vs Q E hr h => ?_)
  · obtain ⟨t, ls, lst, rfl, _⟩ := h
    rfl
  obtain ⟨t, ls, lst, rfl, hsp, htl, lok, num, hd9, q⟩ := h
  refine ⟨_, (pss_cons (ps_set (i := 1) scLRead.nd rfl (by first | exact Or.inl rfl | exact Or.inr rfl) (pe_split (pv 0) pe_str))
      (pss_cons (ps_par3 (i := 2) (j := 3) (l := 4) (by rfl) scLRead.nd rfl rfl rfl (by decide) (by decide) (by decide) rfl rfl rfl (pa_cons (pe_disp (pps_cons pe_str (pe_slice sl_list (pv 1) po_none (po_some (pe_un un_neg pe_int))) (pps_cons pe_str pe_int (pps_cons pe_str pe_bl pps_nil))) (by rfl) (by rfl) (fun z => by cases z) (by decide)) (pa_cons pe_dnewK (pa_cons pe_str pa_nil))) (by rfl))
      (pss_cons (ps_while PassesOwn.never (PW.pt (pw_and (pt_not (pt_val (pe_dget (hu_of hr) (pv 2) pe_str (fun _ _ => rfl)))) (pw_and1 (PW.pt (pw_or (pt_cmpR (op_eqD0 hr.units0) (pv 3) pe_dnewK (nomark _)) (pw_or1 (pt_cmpR op_lt (pe_dget (hu_of hr) (pv 2) pe_str (fun _ _ => rfl)) (pe_callB call_len_seq (by rfl) B.len (by decide +kernel) (pa_cons (pe_dget (hu_of hr) (pv 2) pe_str (fun _ _ => rfl)) pa_nil)) (nomark _)))))))) (pss_cons (ps_set (i := 5) scLRead.nd rfl (by first | exact Or.inl rfl | exact Or.inr rfl) (pe_own gLLine (hr.mono (by omega)) (by rfl) (pa_cons (pv 2) pa_nil)))
      (pss_cut (ps_set (i := 6) scLRead.nd rfl (by first | exact Or.inl rfl | exact Or.inr rfl) (pe_ifExp (PW.pt (pw_or (pt_cmpR op_isN (pv 5) pe_non (nomark _)) (pw_or1 (pt_cmpR op_ne (pe_slice sl_str (pv 5) po_none (po_some pe_int)) pe_str (nomark _))))) pe_str (pe_slice sl_str (pv 5) (po_some pe_int) po_none)))
      (pss_one (ps_if (PW.pt (pw_and (pt_val (pe_own gLIsWord (hr.mono (by omega)) (by rfl) (pa_cons (pv 6) pa_nil))) (pw_and1 (pt_cmpR op_gt_str (pv 6) (pv 4) (nomark _))))) (pss_cons (ps_dput (hu_of hr) (pv 2) pe_str (pe_op op_add (pe_dget (hu_of hr) (pv 2) pe_str (fun _ _ => rfl)) pe_int) rfl)
      (pss_cons (ps_dput (hu_of hr) (pv 3) (pv 6) (pe_own gLReadBlock (hr.mono (by omega)) (by rfl) (pa_cons (pv 2) (pa_cons pe_int pa_nil))) rfl)
      (pss_one (ps_set (i := 4) scLRead.nd rfl (by first | exact Or.inl rfl | exact Or.inr rfl) (pv 6))))) (pss_one (ps_dput (hu_of hr) (pv 2) pe_str pe_bl rfl)))))))
      (pss_one (ps_ret (pe_ifExp (PW.pt (pw_or (pt_val (pe_dget (hu_of hr) (pv 2) pe_str (fun _ _ => rfl))) (pw_or1 (pt_cmpR op_ne (pe_ix ix_list (pv 1) (pe_un un_neg pe_int) (fun _ _ => rfl)) pe_str (nomark _))))) (pe_op op_add (pe_dget (hu_of hr) (pv 2) pe_str (fun _ _ => rfl)) pe_int) (pv 3))))))), ?_⟩
  have bg : sizeLine ≥ 16777216 := by decide
  have all := lok.all
  refine ⟨_, rfl, ⟨_, rfl⟩, _, _, rfl, rfl, (by decide +kernel), (by omega), fun wl nwl => ?_⟩
  rw [hsp]
  have s1 : Same H (upd H wl (.lst ((ls ++ [lst]).map V.str))) := Same.new nwl
  have hwl1 : (upd H wl (.lst ((ls ++ [lst]).map V.str))) wl = some (.lst ((ls ++ [lst]).map V.str)) := upd_same
  generalize hG1 : upd H wl _ = G1 at *
  refine fun m nm => ?_
  have hm1 : (upd G1 m (.dK [])) m = some (.dK []) := upd_same
  have s2 : Same G1 (upd G1 m (.dK [])) := Same.new nm
  generalize hG2 : upd G1 m _ = G2 at *
  refine ⟨_, rfl, 1, rfl, _, rfl, wl, _, rfl, SqL.of (s2 _ _ hwl1), fun l nl => ?_⟩
  have ecut : cutV ((ls ++ [lst]).map V.str) none (some (-1)) = ls.map V.str := by
    rw [cut_neg1, List.map_append]
    exact List.dropLast_concat
  have s3 : Same G2 (upd G2 l (.lst (ls.map V.str))) := Same.new nl
  have hl3 : (upd G2 l (.lst (ls.map V.str))) l = some (.lst (ls.map V.str)) := upd_same
  rw [show cutV ((ls ++ [lst]).map V.str) none (some (-1)) = ls.map V.str from ecut]
  generalize hG3 : upd G2 l _ = G3 at *
  refine ⟨s3 _ _ hm1, [(Sum.inr "lines", .ref l), (Sum.inr "at", .int 0), (Sum.inr "bad", .bl false)], rfl, (by show 3 ≤ 15; decide), ?_⟩
  have hm4 : (upd G3 m (.dK (mergeK [] [(Sum.inr "lines", .ref l), (Sum.inr "at", .int 0), (Sum.inr "bad", .bl false)]))) m = some (.dK [(Sum.inr "lines", .ref l), (Sum.inr "at", .int ((0 : Nat) : Int)), (Sum.inr "bad", .bl false)]) := by
    rw [upd_same]
    rfl
  have lm : l ≠ m := fun e => by rw [e, hm1] at nl; cases nl
  have wm : wl ≠ m := fun e => by rw [← e, hwl1] at nm; cases nm
  have hl4 : (upd G3 m (.dK (mergeK [] [(Sum.inr "lines", .ref l), (Sum.inr "at", .int 0), (Sum.inr "bad", .bl false)]))) l = some (.lst (ls.map V.str)) := by rw [upd_ne lm]; exact hl3
  have nmH : H m = none := Same.free s1 nm
  have s4 : Same H (upd G3 m (.dK (mergeK [] [(Sum.inr "lines", .ref l), (Sum.inr "at", .int 0), (Sum.inr "bad", .bl false)]))) := Same.upN (Same.trans s1 (Same.trans s2 s3)) nmH
  have hwl4 : (upd G3 m (.dK (mergeK [] [(Sum.inr "lines", .ref l), (Sum.inr "at", .int 0), (Sum.inr "bad", .bl false)]))) wl = some (.lst ((ls ++ [lst]).map V.str)) := by rw [upd_ne wm]; exact s3 _ _ (s2 _ _ hwl1)
  generalize hG4 : upd G3 m _ = G4 at *
  have nlH : H l = none := Same.free (Same.trans s1 s2) nl
  refine fun fnd nfnd => ⟨_, _, _, rfl, ?_⟩
  have s5 : Same G4 (upd G4 fnd (.dK [])) := Same.new nfnd
  have hf5 : (upd G4 fnd (.dK [])) fnd = some (.dK []) := upd_same
  generalize hG5 : upd G4 fnd _ = G5 at *
  have nfH : H fnd = none := Same.free s4 nfnd
  have mf : m ≠ fnd := fun e => by rw [← e, hm4] at nfnd; cases nfnd
  have lf : l ≠ fnd := fun e => by rw [← e, hl4] at nfnd; cases nfnd
  have wf : wl ≠ fnd := fun e => by rw [← e, hwl4] at nfnd; cases nfnd
  have ma5 : MAt G5 m l ls 0 false := ⟨s5 _ _ hm4, s5 _ _ hl4⟩
  refine ⟨fun k σ H' => RlIv H t wl m l ls lst d (fun lib => (lst ≠ Str.empty → ∀ H', Same H H' → Q (.int ((ls.length + 1 : Nat) : Int)) H') ∧ (lst = Str.empty → ∀ H' p kvs, Same H H' → H p = none → H' p = some (.dK kvs) → LibAtD d (fun x => H x = none ∧ x ≠ p) lawK H' kvs lib → Q (.ref p) H')) (fun e => ∀ H', Same H H' → Q (.int (e : Nat)) H') fnd k σ H', ?_, ?_⟩
  · refine ⟨_, 0, false, Str.empty, [], [], none, none, rfl, Same.trans s4 s5, ma5, s5 _ _ hwl4, hf5, Nat.zero_le _, Nat.le_refl _, .inl ⟨rfl, Nat.zero_le _, rfl, ⟨fun _ => rfl, fun _ => rfl⟩, .nil, (fun m hm => by cases hm), ?_⟩⟩
    rcases q with ⟨e, h | ⟨hl, rfl, lib, h⟩, q⟩ | ⟨hl, lib, h, q⟩
    · exact .inr ⟨e, h, q⟩
    · exact .inl ⟨lib, h, fun _ => q, fun c => absurd c hl⟩
    · exact .inl ⟨lib, h, fun c => absurd hl c, fun _ => q⟩
  rintro k0 σ G6 ⟨cur, bd, last, done, kvs, v5, v6, rfl, s6, ma6, hwl6, hf6, l8, lkv, hst⟩
  refine ⟨_, rfl, m, _, rfl, ma6.bad, bd, rfl, ?_⟩
  rcases hst with ⟨rfl, lcur, rfl, hk0, hla, hlt, hcome⟩ | ⟨rfl, rfl, he⟩
  case inr =>
    refine iteF ⟨_, rfl, m, _, rfl, ma6.bad, true, rfl, iteT (iteT ⟨_, rfl, m, _, rfl, ma6.at_, _, _, rfl, rfl, ?_⟩)⟩
    exact he _ s6
  refine iteT ⟨_, rfl, fun e0 ne0 => ⟨fnd, e0, kvs, rfl, rfl, Same.new ne0 _ _ hf6, upd_same, _, rfl, ?_⟩⟩
  have s7 : Same H (upd G6 e0 (.dK [])) := Same.trans s6 (Same.new ne0)
  have ma7 := ma6.same (Same.new ne0 (o := .dK []))
  have hwl7 := Same.new ne0 (o := .dK []) _ _ hwl6
  have hf7 := Same.new ne0 (o := .dK []) _ _ hf6
  have hla7 : LibAtD d (fun x => H x = none ∧ x ≠ fnd) lawK (upd G6 e0 (.dK [])) kvs done := hla.to (Keep.fr (Fr.same (Same.new ne0)) fun _ k => k)
  generalize hG7 : upd G6 e0 _ = G7 at *
  by_cases hex : kvs.length ≠ 0 ∧ cur = ls.length
  · -- all is read
    obtain ⟨hkv, hc⟩ := hex
    have hlast : last ≠ Str.empty := fun e => hkv (hk0.mpr e)
    rw [beq_eq_false_iff_ne.mpr hkv]
    refine iteF ⟨_, rfl, m, _, rfl, ma7.at_, _, rfl, m, _, rfl, ma7.lines, l, _, rfl, .inl (SqL.of ma7.l), _, _, rfl, rfl, _, rfl, ?_⟩
    rw [List.length_map, decide_eq_false (by omega)]
    have nz : ∀ {z : Str}, ls[cur]? ≠ some z := fun {z} e => by rw [List.getElem?_eq_none (by omega)] at e; cases e
    obtain ⟨hE1, hE2⟩ : (lst ≠ Str.empty → ∀ H', Same H H' → Q (.int ((ls.length + 1 : Nat) : Int)) H') ∧ (lst = Str.empty → ∀ H' p kvs, Same H H' → H p = none → H' p = some (.dK kvs) → LibAtD d (fun x => H x = none ∧ x ≠ p) lawK H' kvs done → Q (.ref p) H') := by
      rcases hcome with ⟨rest, h, he⟩ | ⟨e, h, _⟩
      · cases h with
        | done _ _ => rw [List.append_nil] at he; exact he
        | step h _ _ _ _ => exact absurd h nz
      · cases h with
        | bad h _ => exact absurd h (fun h => h.elim (fun h => by omega) hlast)
        | here h _ _ _ => exact absurd h nz
        | later h _ _ _ _ => exact absurd h nz
    refine iteF ⟨_, rfl, m, _, rfl, ma7.bad, false, rfl, iteF ⟨_, rfl, 1, rfl, wl, _, -1, _, rfl, rfl, SqL.of hwl7, (by rw [List.map_append]; exact atI_last _ _), rfl, _, rfl, ?_⟩⟩
    by_cases hl : lst = Str.empty
    · rw [decide_eq_true (by rw [hl]; rfl)]
      exact iteF ⟨_, rfl, hE2 hl _ fnd kvs s7 nfH hf7 hla7⟩
    · rw [decide_eq_false (show ¬ V.str lst = V.str ("" : Str) from fun z => hl (V.str.inj z))]
      refine iteT ⟨_, rfl, m, _, rfl, ma7.at_, _, _, rfl, rfl, ?_⟩
      have := hE1 hl _ s7
      rw [← hc] at this
      exact this
  refine ite_or (fun h => iteT h) (fun hc h => ⟨_, rfl, m, _, rfl, ma7.at_, _, rfl, m, _, rfl, ma7.lines, l, _, rfl, .inl (SqL.of ma7.l), _, _, rfl, rfl, _, rfl, ?_⟩) ?_
  · have hlt2 : cur < ls.length := by
      have : kvs.length ≠ 0 := by simpa using hc
      omega
    rw [List.length_map, decide_eq_true (by omega)]
    exact iteT h
  refine ⟨_, fun σ' H' h => h, ?_⟩
  refine ⟨_, rfl, m, l, ls, cur, false, rfl, ma7, ?_⟩
  refine ⟨fun σ H' => ∃ wd : Str, σ = [some (.str t), some (.ref wl), some (.ref m), some (.ref fnd), some (.str last), some (lineV ls cur), some (.str wd)] ∧ H' = G7 ∧ wd.length ≤ 15000000 ∧ ((∃ w0, ls[cur]? = some (("module " : Str) ++ w0) ∧ wd = w0) ∨ ((∀ w0, ls[cur]? ≠ some (("module " : Str) ++ w0)) ∧ wd = Str.empty)), ?_, ?_⟩
  · have l7 : ("module " : Str).length = 7 := by decide +kernel
    cases hz : ls[cur]? with
    | none =>
      have : lineV ls cur = .non := by unfold lineV; rw [hz]
      rw [this]
      exact ⟨_, rfl, rfl, _, rfl, iteT (iteT ⟨Str.empty, rfl, rfl, Nat.zero_le _, .inr ⟨(fun w0 e => by cases e), rfl⟩⟩)⟩
    | some z =>
      have e : lineV ls cur = .str z := by unfold lineV; rw [hz]
      have lz := lok.len _ (List.mem_of_getElem? hz)
      rw [e]
      refine ⟨_, rfl, rfl, _, rfl, iteF ⟨_, rfl, 7, rfl, z, rfl, by omega, rfl, _, rfl, ?_⟩⟩
      have cs : decide (V.str (cutS z none (some 7)) = V.str ("module " : Str)) = Txt.startswith z ("module " : Str) := cut_starts2 z ("module " : Str) (k := 7) (by rw [← len_tl]; exact l7)
      rw [cs]
      cases hs : Txt.startswith z ("module " : Str) with
      | true =>
        obtain ⟨w0, rfl⟩ := starts_mod hs
        refine iteF ⟨_, rfl, 7, rfl, _, rfl, by omega, ?_⟩
        have e7 : cutS (("module " : Str) ++ w0) (some 7) none = w0 := by
          have := cut_app ("module " : Str) w0
          rw [l7] at this
          exact this
        rw [e7]
        exact ⟨w0, by rw [← e]; rfl, rfl, by rw [Str.length_append] at lz; omega, .inl ⟨w0, rfl, rfl⟩⟩
      | false =>
        refine iteT ⟨Str.empty, by rw [← e]; rfl, rfl, Nat.zero_le _, .inr ⟨fun w0 e2 => ?_, rfl⟩⟩
        rw [Option.some.inj e2, starts_app] at hs
        cases hs
  rintro σ _ ⟨wd, rfl, rfl, lwd, hwd⟩
  refine ⟨_, rfl, .str wd, rfl, .inl ⟨wd, rfl, by omega⟩, fun G8 s8 => ⟨_, rfl, ?_⟩⟩
  have ma8 := ma7.same s8
  have s08 := Same.trans s7 s8
  rw [show wordV (.str wd) = isW wd from rfl]
  -- where it goes wrong
  have bad : (¬ (isW wd = true ∧ last.cps.toList < wd.cps.toList)) → ∀ e, ModsE ls (d + 1) cur last e → (∀ H', Same H H' → Q (.int (e : Nat)) H') → ∀ H', Same H H' → Q (.int ((cur + 1 : Nat) : Int)) H' := fun hn e h he => by
    have no : ∀ {w0 : Str}, ls[cur]? = some (("module " : Str) ++ w0) → isW w0 = true → last.cps.toList < w0.cps.toList → False := fun {w0} h h2 h3 => by
      rcases hwd with ⟨w1, h4, rfl⟩ | ⟨h4, _⟩
      · rw [h4] at h
        rw [mod_inj (Option.some.inj h)] at hn
        exact hn ⟨h2, h3⟩
      · exact h4 _ h
    cases h with
    | bad _ _ => exact he
    | here h h2 h3 _ => exact (no h h2 h3).elim
    | later h h2 h3 _ _ => exact (no h h2 h3).elim
  have badR : (¬ (isW wd = true ∧ last.cps.toList < wd.cps.toList)) → ∀ H', Same H H' → Q (.int ((cur + 1 : Nat) : Int)) H' := fun hn => by
    rcases hcome with ⟨rest, h, _⟩ | ⟨e, h, he⟩
    · exfalso
      cases h with
      | done h1 h2 => exact hex ⟨fun z => h2 (hk0.mp z), h1⟩
      | step h h2 h3 _ _ =>
        rcases hwd with ⟨w1, h4, rfl⟩ | ⟨h4, _⟩
        · rw [h4] at h
          rw [mod_inj (Option.some.inj h)] at hn
          exact hn ⟨h2, h3⟩
        · exact h4 _ h
    · exact bad hn e h he
  have hwl8 := s8 _ _ hwl7
  have hf8 := s8 _ _ hf7
  have hla8 := hla7.to (Keep.fr (Fr.same s8) fun _ k => k)
  have hm8 : G8 m ≠ none := by rw [ma8.m]; exact fun z => nomatch z
  have stp : (∀ H', Same H H' → Q (.int ((cur + 1 : Nat) : Int)) H') → ∃ m', m' < ls.length - cur + 1 ∧ RlIv H t wl m l ls lst d (fun lib => (lst ≠ Str.empty → ∀ H', Same H H' → Q (.int ((ls.length + 1 : Nat) : Int)) H') ∧ (lst = Str.empty → ∀ H' p kvs, Same H H' → H p = none → H' p = some (.dK kvs) → LibAtD d (fun x => H x = none ∧ x ≠ p) lawK H' kvs lib → Q (.ref p) H')) (fun e => ∀ H', Same H H' → Q (.int (e : Nat)) H') fnd m'
      [some (.str t), some (.ref wl), some (.ref m), some (.ref fnd), some (.str last), some (lineV ls cur), some (.str wd)] (upd G8 m (.dK [(Sum.inr "lines", .ref l), (Sum.inr "at", .int cur), (Sum.inr "bad", .bl true)])) := fun he =>
    ⟨0, by omega, cur, true, last, done, kvs, _, _, rfl, Same.upN s08 nmH, ma8.put, by rw [upd_ne wm]; exact hwl8, by rw [upd_ne (Ne.symm mf)]; exact hf8, l8, lkv, .inr ⟨rfl, rfl, he⟩⟩
  cases hw : isW wd with
  | false =>
    have he := badR (by rw [hw]; exact fun z => Bool.false_ne_true z.1)
    exact iteF (iteF ⟨_, rfl, m, _, rfl, ma8.setBad true, stp he⟩)
  | true =>
    refine iteT ⟨_, rfl, _, rfl, _, _, rfl, rfl, _, rfl, ?_⟩
    by_cases hlw : last.cps.toList < wd.cps.toList
    case neg =>
      have he := badR fun z => hlw z.2
      rw [decide_eq_false hlw]
      exact iteF ⟨_, rfl, m, _, rfl, ma8.setBad true, stp he⟩
    rw [decide_eq_true hlw]
    obtain ⟨hzw, hz0⟩ : ls[cur]? = some (("module " : Str) ++ wd) ∧ cur < ls.length := by
      rcases hwd with ⟨w1, h4, rfl⟩ | ⟨_, rfl⟩
      · exact ⟨h4, (List.getElem?_eq_some_iff.mp h4).1⟩
      · exact absurd hw (by decide +kernel)
    have w8 : wd.length ≤ 8 := by have := (word_signs hw).2.2; rw [len_tl]; exact this
    have wne : wd ≠ Str.empty := fun c => by
      have h2 := (word_signs hw).2.1
      rw [c] at h2
      cases h2
    refine iteT ⟨_, rfl, m, _, rfl, ma8.at_, _, _, rfl, rfl, _, rfl, m, _, rfl, ma8.setAt (cur + 1), ?_⟩
    have ma9 := ma8.put (j := cur + 1) (c := false)
    have s9 : Same H (upd G8 m (.dK [(Sum.inr "lines", .ref l), (Sum.inr "at", .int ((cur + 1 : Nat) : Int)), (Sum.inr "bad", .bl false)])) := Same.upN s08 nmH
    have hwl9 : (upd G8 m (.dK [(Sum.inr "lines", .ref l), (Sum.inr "at", .int ((cur + 1 : Nat) : Int)), (Sum.inr "bad", .bl false)])) wl = some (.lst ((ls ++ [lst]).map V.str)) := by rw [upd_ne wm]; exact hwl8
    have hf9 : (upd G8 m (.dK [(Sum.inr "lines", .ref l), (Sum.inr "at", .int ((cur + 1 : Nat) : Int)), (Sum.inr "bad", .bl false)])) fnd = some (.dK kvs) := by rw [upd_ne (Ne.symm mf)]; exact hf8
    have hla9 : LibAtD d (fun x => H x = none ∧ x ≠ fnd) lawK (upd G8 m (.dK [(Sum.inr "lines", .ref l), (Sum.inr "at", .int ((cur + 1 : Nat) : Int)), (Sum.inr "bad", .bl false)])) kvs done := hla8.to fun x kd ws k e => ⟨k, by rw [upd_ne (fun z => by rw [z, ma8.m] at e; cases kd <;> cases e)]; exact e⟩
    generalize hG9 : upd G8 m (.dK [(Sum.inr "lines", .ref l), (Sum.inr "at", .int ((cur + 1 : Nat) : Int)), (Sum.inr "bad", .bl false)]) = G9 at *
    refine ⟨_, rfl, m, l, ls, cur + 1, 1, rfl, ma9, lok, num, by omega, ?_⟩
    have cls : (∃ rs a1, LRows ls (d + 1) 1 (cur + 1) rs a1 ∧ a1 ≤ ls.length ∧ ((∃ rest, RdMods ls (d + 1) a1 wd rest ∧ ((lst ≠ Str.empty → ∀ H', Same H H' → Q (.int ((ls.length + 1 : Nat) : Int)) H') ∧ (lst = Str.empty → ∀ H' p kvs, Same H H' → H p = none → H' p = some (.dK kvs) → LibAtD d (fun x => H x = none ∧ x ≠ p) lawK H' kvs ((done ++ [(wd, rs)]) ++ rest) → Q (.ref p) H'))) ∨
        ∃ e, ModsE ls (d + 1) a1 wd e ∧ ∀ H', Same H H' → Q (.int (e : Nat)) H')) ∨ ∃ e, LRowsB ls (d + 1) 1 (cur + 1) e ∧ ∀ H', Same H H' → Q (.int (e : Nat)) H' := by
      have same : ∀ {w0 : Str}, ls[cur]? = some (("module " : Str) ++ w0) → w0 = wd := fun {w0} h => by
        rw [hzw] at h
        exact (mod_inj (Option.some.inj h)).symm
      rcases hcome with ⟨rest, h, he⟩ | ⟨e, h, he⟩
      · cases h with
        | done h1 _ => omega
        | step h h2 h3 hR hM =>
          obtain rfl := same h
          exact .inl ⟨_, _, rdRows_law hR, rdRows_len hR, .inl ⟨_, hM, by rw [List.append_assoc]; exact he⟩⟩
      · cases h with
        | bad _ h => exact absurd hlw (h wd hzw hw)
        | later h h2 h3 hR hM =>
          obtain rfl := same h
          exact .inl ⟨_, _, rdRows_law hR, rdRows_len hR, .inr ⟨e, hM, he⟩⟩
        | here h h2 h3 hE =>
          obtain rfl := same h
          rcases rowsE_law hE with hb | ⟨rs, c, hR, hS, rfl⟩
          · exact .inr ⟨e, hb, he⟩
          · obtain ⟨z, hz, hs⟩ := hS
            have hc : c < ls.length := (List.getElem?_eq_some_iff.mp hz).1
            exact .inl ⟨rs, c, hR, by omega, .inr ⟨c + 1, .bad (.inl hc) fun w0 h0 _ _ => (show Stuck ls (0 + 1) c from ⟨z, hz, hs⟩).mod w0 h0, he⟩⟩
    have up : ∀ {G10 : Hp} {v : V} {x : Addr} {o : HO}, Fr (· ≠ m) G9 G10 → x ≠ m → x ≠ fnd → G9 x = some o → (upd G10 fnd (.dK (putK kvs (Sum.inr wd) v))) x = some o := fun {G10 v x o} f a b e => by rw [upd_ne b]; exact f _ _ a e
    have lp : ∀ v : V, (putK kvs (Sum.inr wd) v).length ≤ kvs.length + 1 := fun v => by
      unfold putK
      split
      · rw [List.length_map]; exact Nat.le_succ _
      · rw [List.length_append]; exact Nat.le_refl _
    have frS : ∀ {G10 : Hp} {v : V}, Fr (· ≠ m) G9 G10 → Same H (upd G10 fnd (.dK (putK kvs (Sum.inr wd) v))) := fun {G10 v} f => Same.upN (fun x o e => f _ _ (fun z => by rw [z, nmH] at e; cases e) (s9 _ _ e)) nfH
    rcases cls with ⟨rs, a1, hR, hal, hco⟩ | ⟨e, hB, he⟩
    · refine .inl ⟨rs, a1, hR, fun G10 v f10 ma10 hv => ?_⟩
      have hlt10 := lRows_lt hR
      have hf10 := f10 _ _ (Ne.symm mf) hf9
      refine ⟨_, rfl, _, rfl, fnd, _, rfl, DPut.k (k := Sum.inr wd) hf10 (big (by omega)), _, rfl, ?_⟩
      have lt_w : ∀ m ∈ done, m.1.cps.toList < wd.cps.toList := fun m hm => (hlt m hm).elim (fun h => List.lt_trans h hlw) (fun h => by rw [h]; exact hlw)
      have ep : ∀ m ∈ done, m.1 ≠ wd := fun m hm e => by
        have := lt_w m hm
        rw [e] at this
        exact absurd this (List.lt_irrefl _)
      have ok1 : Keep (fun x => H x = none ∧ x ≠ fnd) (fun x => H x = none ∧ x ≠ fnd) G9 (upd G10 fnd (.dK (putK kvs (Sum.inr wd) v))) := fun x kd xs k e => ⟨k, up f10 (fun z => by rw [z, ma9.m] at e; cases kd <;> cases e) k.2 e⟩
      have nk : ∀ x kd xs, G9 x = none → G10 x = some (mkO kd xs) → (H x = none ∧ x ≠ fnd) ∧ (upd G10 fnd (.dK (putK kvs (Sum.inr wd) v))) x = some (mkO kd xs) := fun x kd xs k e => by
        have xf : x ≠ fnd := fun z => by rw [z, hf9] at k; cases k
        exact ⟨⟨Same.free s9 k, xf⟩, by rw [upd_ne xf]; exact e⟩
      have hla2 := libAtD_new (z := wd) (hla9.to ok1) ep (hv.to nk)
      have kne : (putK kvs (Sum.inr wd) v).length = 0 ↔ wd = Str.empty := ⟨fun z => by
        have e2 := paired_len hla2
        rw [z, List.length_append] at e2
        simp at e2, fun z => absurd z wne⟩
      refine ⟨ls.length - a1 + 1, by omega, a1, false, wd, done ++ [(wd, rs)], _, _, _, rfl, frS f10, ⟨by rw [upd_ne mf]; exact ma10.m, by rw [upd_ne lf]; exact ma10.l⟩, up f10 wm wf hwl9, upd_same, w8, by have := lp v; omega, .inl ⟨rfl, hal, rfl, kne, hla2, fun m hm => ?_, hco⟩⟩
      rcases List.mem_append.mp hm with h | h
      · exact .inl (lt_w m h)
      · rw [List.mem_singleton.mp h]
        exact .inr rfl
    · refine .inr ⟨e, hB, fun G10 v e' f10 ma10 hee => ?_⟩
      have hlt10 := lRowsB_lt hB
      have hf10 := f10 _ _ (Ne.symm mf) hf9
      refine ⟨_, rfl, _, rfl, fnd, _, rfl, DPut.k (k := Sum.inr wd) hf10 (big (by omega)), _, rfl, ?_⟩
      exact ⟨0, by omega, e', true, wd, done, _, _, _, rfl, frS f10, ⟨by rw [upd_ne mf]; exact ma10.m, by rw [upd_ne lf]; exact ma10.l⟩, up f10 wm wf hwl9, upd_same, w8, by have := lp v; omega, .inr ⟨rfl, rfl, by rw [← hee]; exact he⟩⟩
end
end Ft
set_option Elab.async false
set_option linter.all false
set_option maxRecDepth 100000
set_option maxHeartbeats 1000000
set_option pp.maxSteps 3000
set_option pp.deepTerms.threshold 8
namespace Ft
open PySem PySem.Spec PyProof.Rows L2
/-- a list != [] -/
def rNeL0 (K : PySem.W.Frag) : R2 := fun x y H Q => ∃ a b xs, x = .ref a ∧ y = .ref b ∧ SqL K H a xs ∧ SqL K H b [] ∧ Q (.bl (xs.length != 0)) H
theorem op_neL0 {X : Cx} (hu : X.A.units < cLine) : OpR X (compareOp .NotEq) (rNeL0 X.K) := by
  intro pins s σ H x y v u Q I rx ry h
  obtain ⟨a, b, xs, rfl, rfl, ha, hb, q⟩ := h
  obtain rfl : v = Value.ref a := rx
  obtain rfl : u = Value.ref b := ry
  obtain ⟨its, rv, pa, _⟩ := I.list ha
  obtain ⟨its2, rv2, pb, _⟩ := I.list hb
  have e2 : its2 = [] := by cases rv2; rfl
  subst e2
  by_cases hn : xs = []
  · subst hn
    have e1 : its = [] := by cases rv; rfl
    subst e1
    exact SeqAt.RcNeAt.lists (e := fun _ => true) pa.isList pb.isList rfl hu (fun j h1 _ => absurd h1 (by simp)) X.prog X.w X.xe _ ⟨.bl false, H, I, rfl, q⟩
  · have l1 : its.length ≠ 0 := by
      rw [← rv.length]
      intro c
      exact hn (List.length_eq_zero_iff.mp c)
    refine SeqAt.RcNeAt.lists_lengths pa.isList pb.isList (by simpa using fun c => l1 (by rw [c]; rfl)) hu X.prog X.w X.xe _ ⟨.bl true, H, I, rfl, ?_⟩
    have : (xs.length != 0) = true := by simpa using hn
    rw [this] at q
    exact q
/-- a op1 b op2 c op3 d -/
def tChain3 (r r' r'' : R2) (ta tb tc td : TE) : TE := fun σ H Q => ta σ H fun x H1 => tb σ H1 fun y H2 => r x y H2 fun z H3 => ∃ k, z = .bl k ∧
  (if k = true then tc σ H3 fun u H4 => r' y u H4 fun z2 H5 => ∃ k2, z2 = .bl k2 ∧ (if k2 = true then td σ H5 fun w H6 => r'' u w H6 Q else Q (.bl false) H5) else Q (.bl false) H3)
theorem pe_chain3 {X : Cx} {a b c d : Expr} {ta tb tc td : TE} {pos : Pos} {o1 o2 o3 : CmpOp} {r r' r'' : R2} (h1 : OpR X (compareOp o1) r) (h2 : OpR X (compareOp o2) r') (h3 : OpR X (compareOp o3) r'') (ha : PE X a ta) (hb : PE X b tb) (hc : PE X c tc) (hd : PE X d td)
    (hm : lastMarks [o1, o2, o3] [b, c, d] = false := by with_unfolding_all rfl) : PE X (.Compare a [o1, o2, o3] [b, c, d] pos) (tChain3 r r' r'' ta tb tc td) := by
  refine ⟨fun pins s σ H Q I h => ?_⟩
  refine Compare_chain (thn (ha.run pins s σ H _ I h) fun v s1 ⟨x, H1, I1, r1, q1⟩ => chain_link (thn (hb.run pins s1 σ H1 _ I1 q1) fun u s2 ⟨y, H2, I2, r2, q2⟩ =>
    thn (h1 pins s2 σ H2 x y v u _ I2 r1 r2 q2) fun _ s3 ⟨z, H3, I3, r3, k, e, q3⟩ => ?_)) hm
  subst e
  cases r3
  refine wpAny_truthy_bool ?_
  cases k with
  | false => exact ite_ff ⟨.bl false, H3, I3, rfl, q3⟩
  | true =>
    refine ite_tt (chain_link (thn (hc.run pins s3 σ H3 _ I3 q3) fun u2 s4 ⟨z', H4, I4, r4, q4⟩ => thn (h2 pins s4 σ H4 y z' u u2 _ I4 r2 r4 q4) fun _ s5 ⟨z2, H5, I5, r5, k2, e2, q5⟩ => ?_))
    subst e2
    cases r5
    refine wpAny_truthy_bool ?_
    cases k2 with
    | false => exact ite_ff ⟨.bl false, H5, I5, rfl, q5⟩
    | true => exact ite_tt (chain_last (thn (hd.run pins s5 σ H5 _ I5 q5) fun w' s6 ⟨z3, H6, I6, r6, q6⟩ => h3 pins s6 σ H6 z' z3 u2 w' Q I6 r4 r6 q6))
def intOf : V → Option Int
  | .int i => some i
  | _ => none
def numsR : Row → List Int
  | .plain _ fs => fs.filterMap intOf
  | _ => []
def allW (d : Nat) (lib : Lib) : List (List Int × Row) := lib.flatMap fun m => walkL d [] m.2
def deepW (q : List Int × Row) : Int := (q.1.length : Int) + 2 * (if ((blocks q.2).length != 0) = true then 1 else 0)
def withinB (d : Nat) (lib : Lib) : Bool :=
  decide (lib.length ≤ 4) && (decide ((allW d lib).length ≤ 24) && (decide (((allW d lib).filter fun q => isImp q.2).length ≤ 6) && ((allW d lib).all (fun q => decide (deepW q ≤ 7)) && (allW d lib).all (fun q => (numsR q.2).all fun i => decide (-1000 < i) && decide (i < 1000)))))
theorem libAtD_keys {d : Nat} {ok : Addr → Prop} {kk : Bool → Bool → Prop} {H : Hp} {kvs : List (Key × V)} {lib : Lib} (h : LibAtD d ok kk H kvs lib) : kvs.map (·.1) = (lib.map (·.1)).map Sum.inr := by
  unfold LibAtD at h
  induction h with
  | nil => rfl
  | cons r t ih => rw [List.map_cons, List.map_cons, List.map_cons, ih, r.1]
theorem libAtD_nd {d : Nat} {ok : Addr → Prop} {kk : Bool → Bool → Prop} {H : Hp} {kvs : List (Key × V)} {lib : Lib} (h : LibAtD d ok kk H kvs lib) (hn : (lib.map (·.1)).Nodup) : (kvs.map (·.1)).Nodup := by
  rw [libAtD_keys h]
  have go : ∀ l : List Str, l.Nodup → (l.map (Sum.inr : Str → Key)).Nodup := by
    intro l hl
    induction l with
    | nil => simp
    | cons x l ih =>
      rw [List.nodup_cons] at hl
      rw [List.map_cons, List.nodup_cons]
      refine ⟨fun c => ?_, ih hl.2⟩
      obtain ⟨y, hy, e⟩ := List.mem_map.mp c
      rw [Sum.inr.inj e] at hy
      exact hl.1 hy
  exact go _ hn
theorem nums_few {ks : List Bool} {fs : List V} (hp : Paired (fun k v => fldG k v = true) ks fs) : (fs.filterMap intOf).length ≤ (ks.filter fun b => !b).length := by
  induction hp with
  | nil => exact Nat.le_refl _
  | @cons k v ks fs hv _ ih =>
    cases k with
    | true =>
      cases v with
      | str z => exact ih
      | _ => cases hv
    | false =>
      cases v with
      | int i => exact Nat.succ_le_succ ih
      | _ => cases hv
theorem numsR_len {d : Nat} {r : Row} (h : RowG d r) : (numsR r).length ≤ 1 := by
  have plain : ∀ {w : Str} {fs : List V}, plainG w fs → (numsR (.plain w fs)).length ≤ 1 := fun {w fs} ⟨ks, hk, hp⟩ => by
    have all : ∀ p ∈ plainT, (p.2.filter fun b => !b).length ≤ 1 := by decide +kernel
    exact Nat.le_trans (nums_few hp) (all _ hk)
  cases r with
  | plain w fs => cases d <;> exact plain h
  | _ => exact Nat.zero_le _
theorem numsR_rest {ok : Addr → Prop} {kk : Bool → Bool → Prop} {H : Hp} {d : Nat} {r : Row} {rest : List V} (h : RowG d r) (hp : Paired (fun x (f : Str × Fl) => FlAt ok kk H d x f.2) rest (flds r)) : (V.str (rowWord r) :: rest).filterMap intOf = numsR r := by
  show rest.filterMap intOf = _
  have noblk : ∀ {x : V} {b : List Row}, FlAt ok kk H d x (.blk b) → intOf x = none := fun ⟨_, _, _, ⟨a, _, e, _⟩, _⟩ => by rw [e]; rfl
  cases r with
  | plain w fs =>
    have hg : plainG w fs := by cases d <;> exact h
    obtain ⟨names, e, hl, _, _⟩ := fldsG_plain hg 0
    have hp' : Paired (fun x (f : Str × Fl) => FlAt ok kk H d x f.2) rest (names.zip (fs.map Fl.at)) := by
      have : flds (.plain w fs) = names.zip (fs.map Fl.at) := by
        show ((fieldsOf w).getD []).zip (fs.map Fl.at) = _
        rw [e]
        rfl
      rw [this] at hp
      exact hp
    rw [zip_at' hl hp']
    rfl
  | make n b =>
    cases hp with
    | cons r1 t =>
      cases t with
      | cons r2 t =>
        cases t
        have e1 : _ = V.str n := r1
        rw [e1, List.filterMap_cons, List.filterMap_cons, noblk r2]
        rfl
  | when n b c =>
    cases hp with
    | cons r1 t =>
      cases t with
      | cons r2 t =>
        cases t with
        | cons r3 t =>
          cases t
          have e1 : _ = V.str n := r1
          rw [e1, List.filterMap_cons, List.filterMap_cons, List.filterMap_cons, noblk r2, noblk r3]
          rfl
  | try_ b c =>
    cases hp with
    | cons r2 t =>
      cases t with
      | cons r3 t =>
        cases t
        rw [List.filterMap_cons, List.filterMap_cons, noblk r2, noblk r3]
        rfl
/-- which things of a row are integers -/
theorem row_int {K : PySem.W.Frag} {ok : Addr → Prop} {kk : Bool → Bool → Prop} {H : Hp} {d : Nat} {r : Row} {rest : List V} (h : RowG d r) (hp : Paired (fun x (f : Str × Fl) => FlAt ok kk H d x f.2) rest (flds r)) :
    ∀ x ∈ (V.str (rowWord r) :: rest), (∃ (t u : Value), ClsV (.ty "int") u ∧ TyX K H x t ∧ PySem.W.kitOne K t u = some (intOf x).isSome) := fun x hx => by
  have str : ∀ z : Str, ∃ (t u : Value), ClsV (.ty "int") u ∧ TyX K H (.str z) t ∧ PySem.W.kitOne K t u = some (intOf (.str z)).isSome := fun z => ⟨_, _, .ty _, .base (.str z), kit_ty (r := false) (by decide +kernel)⟩
  rcases List.mem_cons.mp hx with rfl | hx
  · exact str _
  · obtain ⟨i, hi, e⟩ := List.mem_iff_getElem.mp hx
    obtain ⟨f, hf, hat⟩ := paired_get hp (i := i) (x := x) (by rw [List.getElem?_eq_getElem hi, e])
    have fok := (rowGF_of h).ok f (List.mem_of_getElem? hf)
    obtain ⟨name, fl⟩ := f
    cases fl with
    | «at» v =>
      have e : x = v := hat
      subst e
      rcases fok with ⟨_, h2⟩ | ⟨_, i, h2⟩
      · cases x with
        | str z => exact str z
        | _ => cases h2
      · subst h2
        exact ⟨_, _, .ty _, .base (.int i), kit_ty (r := true) (by decide +kernel)⟩
    | blk b =>
      obtain ⟨e, _, ys, ⟨a, kd, rfl, _, _, ha⟩, _⟩ := hat
      refine ⟨_, _, .ty _, seq_ty ha, ?_⟩
      have hk : ∀ T ∈ ["list", "tuple"], kitB T "int" = some false := by decide +kernel
      exact kit_ty (hk _ (by cases kd <;> decide))
theorem walkL_G {d : Nat} {p : List Int} {rs : List Row} (h : ∀ r ∈ rs, RowG d r) : ∀ q ∈ walkL d p rs, RowG d q.2 ∧ q.1.length ≤ p.length + 2 * d + 1 := by
  have up1 : ∀ {d : Nat} {r : Row}, RowG d r → RowG (d + 1) r := by
    intro d
    induction d with
    | zero =>
      intro r h
      cases r with
      | plain w fs => exact h
      | _ => exact h.elim
    | succ d ih =>
      intro r h
      cases r with
      | plain w fs => exact h
      | make n b => exact ⟨h.1, fun r hr => ih (h.2 r hr)⟩
      | when n b c => exact ⟨h.1, fun r hr => ih (h.2.1 r hr), fun r hr => ih (h.2.2 r hr)⟩
      | try_ b c => exact ⟨fun r hr => ih (h.1 r hr), fun r hr => ih (h.2 r hr)⟩
  have row : ∀ (d : Nat) (p : List Int) (r : Row) (i : Nat), RowG d r → ∀ q ∈ rowW d p (r, i), RowG d q.2 ∧ q.1.length ≤ p.length + 2 * d + 1 := by
    intro d
    induction d with
    | zero =>
      intro p r i h q hq
      rw [List.mem_singleton.mp hq]
      exact ⟨h, by rw [List.length_append]; exact Nat.le_refl _⟩
    | succ d ih =>
      intro p r i h q hq
      rcases List.mem_cons.mp hq with rfl | hq
      · exact ⟨h, by simp⟩
      · obtain ⟨qb, hqb, hq⟩ := List.mem_flatMap.mp hq
        obtain ⟨x, hx, hq⟩ := List.mem_flatMap.mp hq
        obtain ⟨e, he, hr⟩ := blkG_ok h (mem_zipIdx_fst hqb)
        obtain rfl : d = e := Nat.succ.inj he
        obtain ⟨r2, j⟩ := x
        have := ih _ r2 j (hr r2 (mem_zipIdx_fst hx)) q hq
        refine ⟨up1 this.1, ?_⟩
        have h2 := this.2
        simp at h2
        omega
  intro q hq
  obtain ⟨x, hx, hq⟩ := List.mem_flatMap.mp hq
  obtain ⟨r, i⟩ := x
  exact row d p r i (h r (mem_zipIdx_fst hx)) q hq
section
variable {P : Program} {w : World} {K : PySem.W.Frag} {mg : Str → Option Value} {base : Heap}
abbrev sLWithin : Stmt := topS 54
theorem scLWithin : FnScope ["_law_library_here", "_law_rows", "_law_numbers", "_law_name", "_law_path", "_law_row_here", "_law_part", "_law_many", "_law_deep"] ["_law_library_here"] (defScope sLWithin) := ⟨rfl, rfl, rfl, by decide +kernel, rfl, by decide +kernel, by decide +kernel⟩
def spLWithin (d : Nat) : Sp := fun vs H Q _ => ∃ (dl : Addr) (kvs : List (Key × V)) (lib : Lib) (ok : Addr → Prop), vs = [.ref dl] ∧ H dl = some (.dK kvs) ∧ LibAtD d ok lawK H kvs lib ∧ (∀ m ∈ lib, ∀ r ∈ m.2, RowG d r) ∧ (allW d lib).length ≤ 14500000 ∧ lib.length ≤ 14500000 ∧ (lib.map (·.1)).Nodup ∧ d ≤ 400 ∧
  ∀ H', Same H H' → Q (.bl (withinB d lib)) H'
theorem ok_LWithin {f : Addr} {fd : FuncData} {k d : Nat} (F : Fun K "_law_within" "_law_within" sLWithin f fd) (B : Bl mg) (hk : 2 + d ≤ k) (gLBlocks : Own P w K mg base 1 "_law_blocks" ["_law_row_here"] spBlocksG)
    (gLWalked : Own P w K mg base (2 + d) "_law_walked" ["_law_rows", "_law_ahead"] (spWalkedG d)) : FnOk P w K mg base CX0 (k + 1) f fd ["_law_library_here"] (spLWithin d) := by
  refine F.ok scLWithin (fun vs H Q E h => ?_) (fun cdv A outer s H vs Q E hr h => ?_)
  · obtain ⟨dl, kvs, lib, ok, rfl, _⟩ := h
    rfl
  obtain ⟨dl, kvs, lib, ok, rfl, hdl, hlib, hG, hcn, hln, hnd, hd4, q⟩ := h
  refine ⟨_, (pss_cons (ps_par (i := 1) (j := 2) (by rfl) scLWithin.nd rfl rfl (by decide) rfl rfl (pa_cons (pe_lst pa_nil) (pa_cons (pe_lst (pa_cons pe_int pa_nil)) pa_nil)) (by rfl))
      (pss_cons (ps_lock (ps_for PassesOwn.never rfl (pi_keys (pv 0)) (pg_name (i := 3) scLWithin.nd rfl (by first | exact Or.inl rfl | exact Or.inr rfl)) (pss_one (ps_expr (pe_bm PySem.F.plainAttrs_list PySem.F.slot_list_extend PySem.F.type_list_extend mt_extend (pv 1) (pa_cons (pe_own gLWalked (hr.mono (by omega)) (by rfl) (pa_cons (pe_dget (hu_of hr) (pv 0) (pv 3) (fun _ _ => rfl)) (pa_cons (pe_tup pa_nil) pa_nil))) pa_nil))))))
      (pss_cons (ps_for PassesOwn.never rfl (pi_list (pv 1)) (pg_tup (by rfl) (pgs_cons (pg_name (i := 4) scLWithin.nd rfl (by first | exact Or.inl rfl | exact Or.inr rfl)) (pgs_cons (pg_name (i := 5) scLWithin.nd rfl (by first | exact Or.inl rfl | exact Or.inr rfl)) pgs_nil))) (pss_one (ps_expr (pe_bm PySem.F.plainAttrs_list PySem.F.slot_list_extend PySem.F.type_list_extend mt_extend (pv 2) (pa_cons (pe_lc (own := [("_law_part", 6)]) (g := (gName 6)) (by rfl) scLWithin.nd (pi_seq (pv 5)) (blkOk_by (own := [("_law_part", 6)]) (N := ["_law_library_here", "_law_rows", "_law_numbers", "_law_name", "_law_path", "_law_row_here", "_law_part", "_law_many", "_law_deep"]) (sc := defScope sLWithin) (by decide +kernel)) (fun _ _ _ _ _ => (pg_name (i := 6) scLWithin.nd rfl (by first | exact Or.inl rfl | exact Or.inr rfl))) (fun _ _ _ _ _ => (pts_one (pt_val (pe_callB (callK (K := K) rIsi call_isi rfl) (by rfl) B.isinstance (by decide +kernel) (pa_cons (pv 6) (pa_cons (pe_bltn (v := .ty "int") (by rfl) B.int (by decide +kernel) rfl) pa_nil)))))) (fun _ _ _ _ _ => (pv 6))) pa_nil)))))
      (pss_cons (ps_set (i := 7) scLWithin.nd rfl (by first | exact Or.inl rfl | exact Or.inr rfl) (pe_callB call_len_seq (by rfl) B.len (by decide +kernel) (pa_cons (pe_lc (own := [("_law_path", 4), ("_law_row_here", 5)]) (g := (gTup _ 2 (gCons (gName 4) (gCons (gName 5) gNil)))) (by rfl) scLWithin.nd (pi_list (pv 1)) (blkOk_by (own := [("_law_path", 4), ("_law_row_here", 5)]) (N := ["_law_library_here", "_law_rows", "_law_numbers", "_law_name", "_law_path", "_law_row_here", "_law_part", "_law_many", "_law_deep"]) (sc := defScope sLWithin) (by decide +kernel)) (fun _ _ _ _ _ => (pg_tup (by rfl) (pgs_cons (pg_name (i := 4) scLWithin.nd rfl (by first | exact Or.inl rfl | exact Or.inr rfl)) (pgs_cons (pg_name (i := 5) scLWithin.nd rfl (by first | exact Or.inl rfl | exact Or.inr rfl)) pgs_nil)))) (fun _ _ _ _ _ => (pts_one (pt_cmpR (opK (K := K) (fun K => rIn K false) op_in_seq rfl) (pe_ix (ixK (K := K) rIx ix_seq rfl) (pv 5) pe_int (fun _ _ => rfl)) (pe_tup (pa_cons pe_str (pa_cons pe_str pa_nil))) (by rfl)))) (fun _ _ _ _ _ => (pv 4))) pa_nil)))
      (pss_cons (ps_set (i := 8) scLWithin.nd rfl (by first | exact Or.inl rfl | exact Or.inr rfl) (pe_callB (cr_max rfl) (by rfl) B.max (by decide +kernel) (pa_cons (pe_op op_cat (pe_lst (pa_cons pe_int pa_nil)) (pe_lc (own := [("_law_path", 4), ("_law_row_here", 5)]) (g := (gTup _ 2 (gCons (gName 4) (gCons (gName 5) gNil)))) (tt := tYes) (by rfl) scLWithin.nd (pi_list (pv 1)) (blkOk_by (own := [("_law_path", 4), ("_law_row_here", 5)]) (N := ["_law_library_here", "_law_rows", "_law_numbers", "_law_name", "_law_path", "_law_row_here", "_law_part", "_law_many", "_law_deep"]) (sc := defScope sLWithin) (by decide +kernel)) (fun _ _ _ _ _ => (pg_tup (by rfl) (pgs_cons (pg_name (i := 4) scLWithin.nd rfl (by first | exact Or.inl rfl | exact Or.inr rfl)) (pgs_cons (pg_name (i := 5) scLWithin.nd rfl (by first | exact Or.inl rfl | exact Or.inr rfl)) pgs_nil)))) (fun _ _ _ _ _ => pts_nil) (fun _ _ _ _ _ => (pe_op op_add (pe_callB (callK (K := K) rLenS call_len_seq rfl) (by rfl) B.len (by decide +kernel) (pa_cons (pv 4) pa_nil)) (pe_op op_mul pe_int (pe_callTy call_int1 (by rfl) B.int (by decide +kernel) (pa_cons (pe_cmpR (opK (K := K) rNeL0 (op_neL0 hr.units0) rfl) (pe_own gLBlocks (hr.mono (by omega)) (by rfl) (pa_cons (pv 5) pa_nil)) (pe_lst pa_nil) (nomark _)) pa_nil))))))) pa_nil)))
      (pss_cons (ps_if (PW.pt (pw_or (pt_cmpR op_gt (pe_callB call_lenD (by rfl) B.len (by decide +kernel) (pa_cons (pv 0) pa_nil)) pe_int (nomark _)) (pw_or (pt_cmpR op_gt (pe_callB call_len_seq (by rfl) B.len (by decide +kernel) (pa_cons (pv 1) pa_nil)) pe_int (nomark _)) (pw_or (pt_cmpR op_gt (pv 7) pe_int (nomark _)) (pw_or1 (pt_cmpR op_gt (pv 8) pe_int (nomark _))))))) (pss_one (ps_ret pe_bl)) pss_nil)
      (pss_one (ps_ret (pe_chain3 op_lt op_le op_lt (pe_un un_neg pe_int) (pe_callB (cr_min rfl) (by rfl) B.min (by decide +kernel) (pa_cons (pv 2) pa_nil)) (pe_callB (cr_max rfl) (by rfl) B.max (by decide +kernel) (pa_cons (pv 2) pa_nil)) pe_int))))))))), ?_⟩
  have bg : sizeLine ≥ 16777216 := by decide
  have lkv : kvs.length = lib.length := paired_len hlib
  refine ⟨Nat.zero_le _, fun r1 nr1 => ⟨(by show 1 ≤ sizeLine; decide), fun r2 nr2 => ⟨_, _, rfl, ?_⟩⟩⟩
  have s1 : Same H (upd H r1 (.lst [])) := Same.new nr1
  have hr1 : (upd H r1 (.lst [])) r1 = some (.lst []) := upd_same
  generalize hG1 : upd H r1 _ = G1 at *
  have s2 : Same G1 (upd G1 r2 (.lst [.int 0])) := Same.new nr2
  have hr2 : (upd G1 r2 (.lst [.int 0])) r2 = some (.lst [.int 0]) := upd_same
  have r12 : r1 ≠ r2 := ne_of_none hr1 nr2
  generalize hG2 : upd G1 r2 _ = G2 at *
  have s02 := Same.trans s1 s2
  have nr2H : H r2 = none := Same.free s1 nr2
  have hdl2 := s02 _ _ hdl
  have dr1 : dl ≠ r1 := fun e => by rw [← e, hdl] at nr1; cases nr1
  have dr2 : dl ≠ r2 := fun e => by rw [← e, hdl] at nr2H; cases nr2H
  have hlib2 : LibAtD d (fun x => H x ≠ none ∧ x ≠ dl) lawK G2 kvs lib := hlib.to fun x kd ws k e => ⟨⟨(by rw [e]; exact fun z => nomatch z), ne_of e hdl (by intro z; cases kd <;> cases z)⟩, s02 _ _ e⟩
  -- all rows
  refine ⟨dl, .dK kvs, hdl2, trivial, fun od => ?_⟩
  have fL : Fr (· ≠ dl) G2 (upd G2 dl (.frz od (.dK kvs))) := Fr.put fun z => z rfl
  have hdL : (upd G2 dl (.frz od (.dK kvs))) dl = some (.frz od (.dK kvs)) := upd_same
  generalize hGL : upd G2 dl _ = GL at *
  refine ⟨_, rfl, dl, od, rfl, .inl ⟨kvs, hdL, ?_⟩⟩
  refine for_it walk_keys (fun i σ H' => Fr (· ≠ dl) H H' ∧ H' dl = some (.frz od (.dK kvs)) ∧ H' r2 = some (.lst [.int 0]) ∧ ∃ zs, H' r1 = some (.lst zs) ∧ Paired (WAt (fun x => H x ≠ none ∧ x ≠ dl) lawK H' d) zs (allW d (lib.take i)) ∧ ∃ v3 v4 v5 v6 v7 v8, σ = [some (.ref dl), some (.ref r1), some (.ref r2), v3, v4, v5, v6, v7, v8])
    ⟨(Fr.same s02).trans fL, hdL, fL _ _ (Ne.symm dr2) hr2, [], fL _ _ (Ne.symm dr1) (s2 _ _ hr1), .nil, _, _, _, _, _, _, rfl⟩ (fun _ _ _ _ h => h.2.1) ?_ ?_
  · rintro i kx σ H1 H2 hi ⟨f1, hd1, h21, zs, h11, hzs, v3, v4, v5, v6, v7, v8, rfl⟩ ⟨rfl, kk, vx, hkv, rfl⟩
    have kp : Keep (fun x => H x ≠ none ∧ x ≠ dl) (fun x => H x ≠ none ∧ x ≠ dl) G2 H2 := fun x kd ws k e => by
      have e0 : H x = some (mkO kd ws) := by
        cases eh : H x with
        | none => exact absurd eh k.1
        | some o => rw [← s02 _ _ eh]; exact e
      exact ⟨k, f1 _ _ k.2 e0⟩
    obtain ⟨⟨z, rs⟩, hm, hkz, hrows⟩ := paired_get (hlib2.to kp) hkv
    obtain rfl : kk = Sum.inr z := hkz
    have mem := List.mem_of_getElem? hm
    have dg : DGet H2 dl (.str z) (some vx) := .inl ⟨kvs, Sum.inr z, .inr ⟨od, hd1⟩, rfl, (valV_at (libAtD_nd hlib2 hnd) hkv).symm⟩
    have et : lib.take (i + 1) = lib.take i ++ [(z, rs)] := by rw [List.take_add_one, hm]; rfl
    have cn1 : (allW d (lib.take i)).length + (walkL d [] rs).length ≤ 14500000 := by
      have h1 := flat_take (f := fun m : Str × List Row => walkL d [] m.2) (l := lib) (i + 1)
      rw [et, List.flatMap_append, List.length_append, List.flatMap_cons, List.flatMap_nil, List.append_nil] at h1
      exact Nat.le_trans h1 hcn
    refine ⟨_, rfl, .inl ⟨rfl, _, SqL.of h11⟩, _, rfl, _, rfl, dl, vx, rfl, dg, Nat.zero_le _, fun t0 nt0 => ?_⟩
    have st : Same H2 (upd H2 t0 (.tup [])) := Same.new nt0
    have ht0 : (upd H2 t0 (.tup [])) t0 = some (.tup []) := upd_same
    generalize hGt : upd H2 t0 _ = Gt at *
    refine ⟨vx, .ref t0, (fun x => H x ≠ none ∧ x ≠ dl), lawK, rs, [], rfl, hrows.to (Keep.fr (Fr.same st) fun _ k => k), hG _ mem, by omega, ⟨t0, rfl, ht0⟩, by simp; omega, fun G3 l3 ws s3 nl3 hl3 hws => ?_⟩
    have s23 : Same H2 G3 := Same.trans st s3
    have h13 := s23 _ _ h11
    refine ⟨r1, l3, zs, ws, rfl, rfl, h13, hl3, bigE (by rw [paired_len hzs, paired_len hws]; omega), ?_⟩
    have kt : KT (fun x => H x ≠ none ∧ x ≠ dl) (fun x => H x ≠ none ∧ x ≠ dl) G3 (upd G3 r1 (.lst (zs ++ ws))) := KT.lst h13 (fun x k => fun e => k.1 (by rw [e]; exact nr1)) fun x k => k
    refine ⟨(f1.trans (Fr.same s23)).upN nr1, by rw [upd_ne dr1]; exact s23 _ _ hd1, by rw [upd_ne (Ne.symm r12)]; exact s23 _ _ h21, zs ++ ws, upd_same, ?_, _, _, _, _, _, _, rfl⟩
    unfold allW
    rw [et, List.flatMap_append, List.flatMap_cons, List.flatMap_nil, List.append_nil]
    exact paired_cat (paired_imp hzs fun v q h => (h.to (KT.same s23)).to kt) (paired_imp hws fun v q h => h.to kt)
  rintro σ H1 ⟨f1, hd1, h21, zs, h11, hzs, v3, v4, v5, v6, v7, v8, rfl⟩
  rw [List.take_of_length_le (by omega)] at hzs
  refine ⟨hd1, ?_⟩
  have sU : Same H (upd H1 dl (.dK kvs)) := fun b o e => by
    by_cases c : b = dl
    · rw [c] at e ⊢
      rw [hdl] at e
      rw [upd_same]
      exact e
    · rw [upd_ne c]
      exact f1 _ _ c e
  have hzs1 : Paired (WAt (fun x => H x ≠ none ∧ x ≠ dl) lawK (upd H1 dl (.dK kvs)) d) zs (allW d lib) := paired_imp hzs fun v q h => h.to ⟨fun x kd ws k e => ⟨k, by rw [upd_ne k.2]; exact e⟩, fun b xs e => by rw [upd_ne (fun z => by rw [z, hd1] at e; cases e)]; exact e⟩
  have h1U : (upd H1 dl (.dK kvs)) r1 = some (.lst zs) := by rw [upd_ne (Ne.symm dr1)]; exact h11
  have h2U : (upd H1 dl (.dK kvs)) r2 = some (.lst [.int 0]) := by rw [upd_ne (Ne.symm dr2)]; exact h21
  have hdU : (upd H1 dl (.dK kvs)) dl = some (.dK kvs) := upd_same
  generalize hGU : upd H1 dl _ = GU at *
  have lzs : zs.length = (allW d lib).length := paired_len hzs1
  have gW : ∀ q ∈ allW d lib, RowG d q.2 ∧ q.1.length ≤ 2 * d + 1 := fun q hq => by
    obtain ⟨m, hm, hq⟩ := List.mem_flatMap.mp hq
    have := walkL_G (hG m hm) q hq
    exact ⟨this.1, by have := this.2; simp at this; omega⟩
  -- numbers
  refine ⟨_, rfl, r1, rfl, ⟨_, SqL.of h1U⟩, ?_⟩
  refine for_it walk_list (fun i σ H' => Same H H' ∧ H' dl = some (.dK kvs) ∧ H' r1 = some (.lst zs) ∧ Paired (WAt (fun x => H x ≠ none ∧ x ≠ dl) lawK H' d) zs (allW d lib) ∧ H' r2 = some (.lst ((0 :: ((allW d lib).take i).flatMap fun q => numsR q.2).map V.int)) ∧ ∃ v3 v4 v5 v6 v7 v8, σ = [some (.ref dl), some (.ref r1), some (.ref r2), v3, v4, v5, v6, v7, v8])
    ⟨sU, hdU, h1U, hzs1, h2U, _, _, _, _, _, _, rfl⟩ (fun i σ H' _ h => SqL.of h.2.2.1) ?_ ?_
  · rintro i y σ H2 H3 hi ⟨s2', hd2, h12, hzs2, h22, v3, v4, v5, v6, v7, v8, rfl⟩ ⟨rfl, hy⟩
    obtain ⟨⟨pp, r⟩, hq, T, pv, rv, rfl, hT, hpv, hrv⟩ := paired_get hzs2 hy
    have gr := gW _ (List.mem_of_getElem? hq)
    obtain ⟨rest, ⟨a, kd, rfl, oka, kka, ha⟩, hrest⟩ := rowVG_of gr.1 hrv
    obtain ⟨hkn, _⟩ := rowG_known (K := K) (wi := false) gr.1 hrest
    have hnr := numsR_rest gr.1 hrest
    have nl1 := numsR_len gr.1
    refine ⟨T, _, rfl, SqT.of hT, rfl, _, _, rfl, _, _, rfl, rfl, ?_⟩
    refine ⟨_, rfl, .inl ⟨rfl, _, SqL.of h22⟩, _, rfl, a, kd, _, rfl, sq_of ha, fun L nL => ?_⟩
    have hint := row_int (K := K) gr.1 hrest
    have lrow : rest.length ≤ 3 := by rw [paired_len hrest]; exact (rowGF_of gr.1).few
    refine lc_it walk_seq (fun j H' => Same H3 H' ∧ H' L = some (.lst ((((V.str (rowWord r) :: rest).take j).filterMap intOf).map V.int)))
      ⟨Same.new nL, upd_same⟩ (fun j H' _ ⟨s4, _⟩ => sq_of (s4 _ _ ha)) ?_ ?_
    · rintro j x H4 H5 hj ⟨s4, hL⟩ ⟨rfl, hx⟩
      obtain ⟨tt, uu, hc, ht, hk⟩ := hint x (List.mem_of_getElem? hx)
      have et : (V.str (rowWord r) :: rest).take (j + 1) = (V.str (rowWord r) :: rest).take j ++ [x] := by rw [List.take_add_one, hx]; rfl
      refine ⟨rfl, _, rfl, _, _, _, _, _, rfl, hc, TyX.same ht s4, hk, _, rfl, ?_⟩
      cases hi2 : intOf x with
      | none =>
        refine iteF ⟨s4, ?_⟩
        rw [et, List.filterMap_append, List.filterMap_cons, hi2]
        rw [List.filterMap_nil, List.append_nil]
        exact hL
      | some n =>
        have ex : x = .int n := by
          cases x <;> first | (have := Option.some.inj hi2; rw [this]) | cases hi2
        refine iteT ⟨_, rfl, _, hL, ?_, Same.upN s4 nL, ?_⟩
        · have h1 : (((V.str (rowWord r) :: rest).take j).filterMap intOf).length ≤ ((V.str (rowWord r) :: rest).take j).length := List.length_filterMap_le _ _
          rw [List.length_take, List.length_cons] at h1
          exact small (by rw [List.length_map]; omega)
        · rw [upd_same, et, List.filterMap_append, List.filterMap_cons, hi2, ex, List.map_append]
          rfl
    · rintro H4 ⟨s4, hL⟩
      rw [List.take_length, hnr] at hL
      have h24 := s4 _ _ h22
      have et : (allW d lib).take (i + 1) = (allW d lib).take i ++ [(pp, r)] := by rw [List.take_add_one, hq]; rfl
      have fl : (((allW d lib).take i).flatMap fun q => numsR q.2).length ≤ i := by
        have := flat_len (f := fun q : List Int × Row => numsR q.2) (c := 1) (l := (allW d lib).take i) fun q hq => numsR_len (gW q (List.mem_of_mem_take hq)).1
        rw [List.length_take] at this
        omega
      have hi14 : i < (allW d lib).length := (List.getElem?_eq_some_iff.mp hq).1
      refine ⟨r2, L, _, _, rfl, rfl, h24, hL, bigE (by rw [List.length_map, List.length_map, List.length_cons]; omega), ?_⟩
      have kt : KT (fun x => H x ≠ none ∧ x ≠ dl) (fun x => H x ≠ none ∧ x ≠ dl) H4 (upd H4 r2 (.lst (((0 :: ((allW d lib).take i).flatMap fun q => numsR q.2).map V.int) ++ (numsR r).map V.int))) := KT.lst h24 (fun x k => fun e => k.1 (by rw [e]; exact nr2H)) fun x k => k
      refine ⟨Same.upN (Same.trans s2' s4) nr2H, by rw [upd_ne dr2]; exact s4 _ _ hd2, by rw [upd_ne r12]; exact s4 _ _ h12, paired_imp hzs2 fun v q h => (h.to (KT.same s4)).to kt, ?_, _, _, _, _, _, _, rfl⟩
      rw [upd_same, et, List.flatMap_append, List.flatMap_cons, List.flatMap_nil, List.append_nil, ← List.map_append]
      rfl
  rintro σ H2 ⟨s2', hd2, h12, hzs2, h22, v3, v4, v5, v6, v7, v8, rfl⟩
  rw [lzs, List.take_length] at h22
  -- loads and picks
  refine ⟨_, rfl, r1, rfl, ⟨_, SqL.of h12⟩, fun L nL => ?_⟩
  refine lc_it walk_list (fun j H' => Same H2 H' ∧ ∃ us : List V, H' L = some (.lst us) ∧ us.length = (((allW d lib).take j).filter fun q => isImp q.2).length)
    ⟨Same.new nL, [], upd_same, rfl⟩ (fun j H' _ ⟨s4, _⟩ => SqL.of (s4 _ _ h12)) ?_ ?_
  · rintro j y H3 H4 hj ⟨s4, us, hL, hus⟩ ⟨rfl, hy⟩
    obtain ⟨⟨pp, r⟩, hq, T, pv, rv, rfl, hT, hpv, hrv⟩ := paired_get hzs2 hy
    have hT4 := s4 _ _ hT
    have et : (allW d lib).take (j + 1) = (allW d lib).take j ++ [(pp, r)] := by rw [List.take_add_one, hq]; rfl
    have lj : us.length ≤ 14500000 := by
      rw [hus]
      exact Nat.le_trans (List.length_filter_le _ _) (by rw [List.length_take]; omega)
    refine ⟨T, _, rfl, SqT.of hT4, rfl, _, _, rfl, _, _, rfl, rfl, rfl, ?_⟩
    obtain ⟨ra, kd, rest, rfl, _, hra⟩ := rowAt_head hrv
    have hra := s4 _ _ hra
    refine ⟨_, rfl, rIx_seq (sq_of hra) (atI_nat (j := 0) rfl) ⟨(by show 2 ≤ sizeLine; decide), fun t1 nt1 => ?_⟩⟩
    refine ⟨t1, loadPick, rfl, .inr (SqT.of upd_same), rfl, rfl, _, rfl, ?_⟩
    show if inV (.str (rowWord r)) loadPick = true then _ else _
    rw [inV_imp]
    generalize hJ1 : upd H4 t1 _ = J1
    have sN1 : Same H4 J1 := by rw [← hJ1]; exact Same.new nt1
    have hL1 := sN1 _ _ hL
    cases himp : isImp r with
    | false =>
      refine iteF ⟨Same.trans s4 sN1, us, hL1, ?_⟩
      rw [et, List.filter_append, List.length_append, List.filter_cons_of_neg (by rw [himp]; exact Bool.false_ne_true), hus]
      rfl
    | true =>
      refine iteT ⟨_, rfl, us, hL1, big (by omega), Same.upN (Same.trans s4 sN1) nL, us ++ [pv], upd_same, ?_⟩
      rw [et, List.filter_append, List.length_append, List.filter_cons_of_pos (p := fun q : List Int × Row => isImp q.2) (a := (pp, r)) himp, List.length_append, hus]
      rfl
  rintro H3 ⟨s3, us, hL, hus⟩
  rw [lzs, List.take_length] at hus
  refine ⟨L, us, rfl, .inl (SqL.of hL), ?_⟩
  rw [hus]
  have h23 := s3 _ _ h22
  have h13 := s3 _ _ h12
  have hd3 := s3 _ _ hd2
  have hzs3 := paired_imp hzs2 fun v q h => h.to (KT.same s3)
  have s03 := Same.trans s2' s3
  -- how deep
  refine ⟨(by show 1 ≤ sizeLine; decide), fun o1 no1 => ?_⟩
  have so : Same H3 (upd H3 o1 (.lst [.int 1])) := Same.new no1
  have ho1 : (upd H3 o1 (.lst [.int 1])) o1 = some (.lst [.int 1]) := upd_same
  generalize hGo : upd H3 o1 _ = Go at *
  have hzso := paired_imp hzs3 fun v q h => h.to (KT.same so)
  refine ⟨_, rfl, r1, rfl, ⟨_, SqL.of (so _ _ h13)⟩, fun M nM => ?_⟩
  refine lc_it walk_list (fun j H' => Same Go H' ∧ H' M = some (.lst ((((allW d lib).take j).map deepW).map V.int)))
    ⟨Same.new nM, upd_same⟩ (fun j H' _ ⟨s4, _⟩ => SqL.of (s4 _ _ (so _ _ h13))) ?_ ?_
  · rintro j y H4 H5 hj ⟨s4, hM⟩ ⟨rfl, hy⟩
    obtain ⟨⟨pp, r⟩, hq, T, pv, rv, rfl, hT, ⟨pa, rfl, hpa⟩, hrv⟩ := paired_get hzso hy
    have hT4 := s4 _ _ hT
    have gr := gW _ (List.mem_of_getElem? hq)
    have et : (allW d lib).take (j + 1) = (allW d lib).take j ++ [(pp, r)] := by rw [List.take_add_one, hq]; rfl
    refine ⟨T, _, rfl, SqT.of hT4, rfl, _, _, rfl, _, _, rfl, rfl, rfl, ?_⟩
    refine ⟨_, rfl, pa, _, rfl, .inr (SqT.of (s4 _ _ hpa)), ?_⟩
    refine ⟨_, rfl, rv, (fun x => H x ≠ none ∧ x ≠ dl), lawK, d, r, rfl, gr.1, hrv.to (Keep.fr (Fr.same s4) fun _ k => k), fun G6 bl ys s6 nb hbl hys => ⟨Nat.zero_le _, fun e0 ne0 => ?_⟩⟩
    have s7 : Same G6 (upd G6 e0 (.lst [])) := Same.new ne0
    refine ⟨bl, e0, ys, rfl, rfl, SqL.of (s7 _ _ hbl), SqL.of upd_same, .inr ⟨_, rfl, _, _, rfl, rfl, mul2, _, _, rfl, rfl, ?_⟩⟩
    have s47 := Same.trans s6 s7
    refine ⟨_, s47 _ _ hM, ?_, Same.upN (Same.trans s4 s47) nM, ?_⟩
    · refine big ?_
      rw [List.length_map, List.length_map, List.length_take]
      omega
    · rw [upd_same, et, List.map_append, List.map_append, paired_len hys]
      have : deepW (pp, r) = ((pp.map V.int).length : Int) + 2 * (if ((blocks r).length != 0) = true then 1 else 0) := by rw [List.length_map]; rfl
      rw [List.map_cons, List.map_nil, List.map_cons, List.map_nil, this]
  rintro H4 ⟨s4, hM⟩
  rw [lzs, List.take_length] at hM
  refine ⟨o1, M, _, _, rfl, rfl, s4 _ _ ho1, hM, bigE (by rw [List.length_map, List.length_map]; show 1 + _ ≤ _; omega), fun mx nmx => ?_⟩
  have s04 := Same.trans s03 (Same.trans so s4)
  have s5 : Same H4 (upd H4 mx (.lst ([V.int 1] ++ ((allW d lib).map deepW).map V.int))) := Same.new nmx
  have hmx : (upd H4 mx (.lst ([V.int 1] ++ ((allW d lib).map deepW).map V.int))) mx = some (.lst ((1 :: (allW d lib).map deepW).map V.int)) := upd_same
  generalize hG5 : upd H4 mx _ = G5 at *
  refine ⟨mx, 1 :: (allW d lib).map deepW, rfl, SqL.of hmx, by rw [List.length_cons]; omega, fun dm hdm hdmx => ?_⟩
  have s05 := Same.trans s04 s5
  have h15 := s5 _ _ (s4 _ _ (so _ _ h13))
  have h25 := s5 _ _ (s4 _ _ (so _ _ h23))
  have hd5 := s5 _ _ (s4 _ _ (so _ _ hd3))
  have qf := q G5 s05
  have deep7 : decide (dm ≤ 7) = (allW d lib).all fun q => decide (deepW q ≤ 7) := by
    rw [Bool.eq_iff_iff, List.all_eq_true]
    refine ⟨fun h q hq => ?_, fun h => ?_⟩
    · have h1 := of_decide_eq_true h
      have := hdmx (deepW q) (List.mem_cons_of_mem _ (List.mem_map_of_mem hq))
      exact decide_eq_true (by omega)
    · rcases List.mem_cons.mp hdm with e | hm
      · rw [e]; rfl
      · obtain ⟨q, hq, e⟩ := List.mem_map.mp hm
        rw [← e]
        exact h q hq
  unfold withinB at qf
  refine ⟨_, rfl, dl, kvs, rfl, hd5, _, _, rfl, rfl, _, rfl, ?_⟩
  rw [lkv]
  by_cases a1 : lib.length ≤ 4
  case neg =>
    rw [decide_eq_false a1, Bool.false_and] at qf
    rw [decide_eq_true (by omega)]
    exact iteT (iteT qf)
  rw [decide_eq_true a1, Bool.true_and] at qf
  rw [decide_eq_false (by omega)]
  refine iteF ⟨_, rfl, r1, zs, rfl, .inl (SqL.of h15), _, _, rfl, rfl, _, rfl, ?_⟩
  rw [lzs]
  by_cases a2 : (allW d lib).length ≤ 24
  case neg =>
    rw [decide_eq_false a2, Bool.false_and] at qf
    rw [decide_eq_true (by omega)]
    exact iteT (iteT qf)
  rw [decide_eq_true a2, Bool.true_and] at qf
  rw [decide_eq_false (by omega)]
  refine iteF ⟨_, rfl, _, _, rfl, rfl, _, rfl, ?_⟩
  by_cases a3 : ((allW d lib).filter fun q => isImp q.2).length ≤ 6
  case neg =>
    rw [decide_eq_false a3, Bool.false_and] at qf
    rw [decide_eq_true (by omega)]
    exact iteT (iteT qf)
  rw [decide_eq_true a3, Bool.true_and] at qf
  rw [decide_eq_false (by omega)]
  refine iteF ⟨_, rfl, _, _, rfl, rfl, _, rfl, ?_⟩
  rw [← deep7] at qf
  by_cases a4 : dm ≤ 7
  case neg =>
    rw [decide_eq_false a4, Bool.false_and] at qf
    rw [decide_eq_true (by omega)]
    exact iteT qf
  rw [decide_eq_true a4, Bool.true_and] at qf
  rw [decide_eq_false (by omega)]
  refine iteF ⟨1000, rfl, ?_⟩
  have qf : Q (.bl ((allW d lib).all fun q => (numsR q.2).all fun i => decide (-1000 < i) && decide (i < 1000))) G5 := qf
  refine ⟨_, rfl, r2, _, rfl, SqL.of h25, by rw [List.length_cons]; omega, fun mn hmn hmin => ⟨_, _, rfl, rfl, _, rfl, ?_⟩⟩
  have memN : ∀ {q : List Int × Row} {x : Int}, q ∈ allW d lib → x ∈ numsR q.2 → x ∈ 0 :: (allW d lib).flatMap fun q => numsR q.2 := fun hq hx => List.mem_cons_of_mem _ (List.mem_flatMap.mpr ⟨_, hq, hx⟩)
  have ofN : ∀ {x : Int}, x ∈ 0 :: ((allW d lib).flatMap fun q => numsR q.2) → ((allW d lib).all fun q => (numsR q.2).all fun i => decide (-1000 < i) && decide (i < 1000)) = true → -1000 < x ∧ x < 1000 := fun {x} hx h => by
    rcases List.mem_cons.mp hx with e | hm
    · rw [e]; exact ⟨by decide, by decide⟩
    · obtain ⟨q, hq, hx⟩ := List.mem_flatMap.mp hm
      have h1 := List.all_eq_true.mp (List.all_eq_true.mp h q hq) x hx
      rw [Bool.and_eq_true] at h1
      exact ⟨of_decide_eq_true h1.1, of_decide_eq_true h1.2⟩
  have nof : ∀ {b : Bool}, (b = true → -1000 < mn ∧ mn < 1000) → ¬ (-1000 < mn) → b = false := fun {b} h n => by
    cases b with
    | false => rfl
    | true => exact absurd (h rfl).1 n
  by_cases a5 : (-1000 : Int) < mn
  case neg =>
    rw [show ((allW d lib).all fun q => (numsR q.2).all fun i => decide (-1000 < i) && decide (i < 1000)) = false from nof (ofN hmn) a5] at qf
    rw [decide_eq_false (show ¬ (-1000 : Int) < mn from a5)]
    exact iteF qf
  rw [decide_eq_true (show (-1000 : Int) < mn from a5)]
  refine iteT ⟨_, rfl, r2, _, rfl, SqL.of h25, by rw [List.length_cons]; omega, fun mm hmm hmax => ⟨_, _, rfl, rfl, _, rfl, ?_⟩⟩
  rw [decide_eq_true (show mn ≤ mm from hmax _ hmn)]
  refine iteT ⟨_, _, rfl, rfl, ?_⟩
  have e : ((allW d lib).all fun q => (numsR q.2).all fun i => decide (-1000 < i) && decide (i < 1000)) = decide (mm < 1000) := by
    rw [Bool.eq_iff_iff]
    refine ⟨fun h => decide_eq_true (ofN hmm h).2, fun h => ?_⟩
    have hlt := of_decide_eq_true h
    refine List.all_eq_true.mpr fun q hq => List.all_eq_true.mpr fun x hx => ?_
    have h1 := hmin x (memN hq hx)
    have h2 := hmax x (memN hq hx)
    rw [decide_eq_true (show (-1000 : Int) < x by omega), decide_eq_true (show x < 1000 by omega)]
    rfl
  rw [e] at qf
  exact qf
end
end Ft
set_option Elab.async false
set_option linter.all false
set_option maxRecDepth 100000
set_option maxHeartbeats 1000000
namespace Ft
open PySem L2
def RowQ : Nat → Row → Prop
  | _, .plain w fs => plainOk false w fs
  | d + 1, .make n b => isW n = true ∧ b.length ≤ 24 ∧ ∀ r ∈ b, RowQ d r
  | d + 1, .when n b c => isW n = true ∧ b.length ≤ 24 ∧ c.length ≤ 24 ∧ (∀ r ∈ b, RowQ d r) ∧ ∀ r ∈ c, RowQ d r
  | d + 1, .try_ b c => b.length ≤ 24 ∧ c.length ≤ 24 ∧ (∀ r ∈ b, RowQ d r) ∧ ∀ r ∈ c, RowQ d r
  | 0, _ => False
def badR (wi : Bool) (r : Row) : Bool := wi && (decide (rowWord r = "make") || decide (rowWord r = "call"))
/-- the path of the first row that may not stand there -/
def firstR : Nat → Bool → List Int → Row × Nat → Option (List Int)
  | 0, wi, p, q => if badR wi q.1 = true then some (p ++ [(q.2 : Int)]) else none
  | d + 1, wi, p, q => if badR wi q.1 = true then some (p ++ [(q.2 : Int)]) else (blocks q.1).zipIdx.findSome? fun b => b.1.zipIdx.findSome? (firstR d (wi || decide (rowWord q.1 = "make")) (p ++ [(q.2 : Int), (b.2 : Int)]))
def firstL (d : Nat) (wi : Bool) (p : List Int) (rs : List Row) : Option (List Int) := rs.zipIdx.findSome? (firstR d wi p)
def firstB (d : Nat) (wi : Bool) (p : List Int) (i : Nat) (q : List Row × Nat) : Option (List Int) := match d with
  | 0 => none
  | e + 1 => firstL e wi (p ++ [(i : Int), (q.2 : Int)]) q.1
theorem firstR_eq {d : Nat} {r : Row} (h : RowG d r) (wi : Bool) (p : List Int) (i : Nat) : firstR d wi p (r, i) = if badR wi r = true then some (p ++ [(i : Int)]) else (blocks r).zipIdx.findSome? (firstB d (wi || decide (rowWord r = "make")) p i) := by
  cases d with
  | zero =>
    cases r with
    | plain w fs => rfl
    | _ => exact h.elim
  | succ d => rfl
theorem first_ok : ∀ {d : Nat} {wi : Bool} {r : Row} {p : List Int} {i : Nat}, RowQ d r → firstR d wi p (r, i) = none → RowOk d wi r := by
  have plain : ∀ {wi : Bool} {w : Str} {fs : List V}, plainOk false w fs → badR wi (.plain w fs) = false → plainOk wi w fs := fun {wi w fs} ⟨ks, h1, h2, _⟩ hb => ⟨ks, h1, h2, fun hw hc => by
    rw [hw, hc] at hb
    have : badR true (.plain ("call" : Str) fs) = true := by
      show (true && (decide (("call" : Str) = "make") || decide (("call" : Str) = "call"))) = true
      decide +kernel
    rw [this] at hb
    cases hb⟩
  intro d
  induction d with
  | zero =>
    intro wi r p i h hf
    cases r with
    | plain w fs =>
      refine plain h ?_
      cases hb : badR wi (.plain w fs) with
      | false => rfl
      | true =>
        have : firstR 0 wi p (.plain w fs, i) = some (p ++ [(i : Int)]) := by show (if badR wi (.plain w fs) = true then _ else _) = _; rw [if_pos hb]
        rw [this] at hf
        cases hf
    | _ => exact h.elim
  | succ d ih =>
    intro wi r p i h hf
    have hf' : (if badR wi r = true then some (p ++ [(i : Int)]) else (blocks r).zipIdx.findSome? fun b => b.1.zipIdx.findSome? (firstR d (wi || decide (rowWord r = "make")) (p ++ [(i : Int), (b.2 : Int)]))) = none := hf
    have hb : badR wi r = false := by
      cases hb : badR wi r with
      | false => rfl
      | true => rw [if_pos hb] at hf'; cases hf'
    rw [if_neg (by rw [hb]; exact Bool.false_ne_true)] at hf'
    have blk : ∀ b ∈ blocks r, (∀ x ∈ b, RowQ d x) → ∀ x ∈ b, RowOk d (wi || decide (rowWord r = "make")) x := fun b hb hq x hx => by
      obtain ⟨j, hj⟩ := List.getElem?_of_mem hb
      have hj2 : (b, j) ∈ (blocks r).zipIdx := List.mem_of_getElem? (i := j) (by rw [List.getElem?_zipIdx, hj]; simp)
      have h1 := List.findSome?_eq_none_iff.mp hf' _ hj2
      obtain ⟨k, hk⟩ := List.getElem?_of_mem hx
      have hk2 : (x, k) ∈ b.zipIdx := List.mem_of_getElem? (i := k) (by rw [List.getElem?_zipIdx, hk]; simp)
      exact ih (hq x hx) (List.findSome?_eq_none_iff.mp h1 _ hk2)
    cases r with
    | plain w fs => exact plain h hb
    | make n b =>
      obtain ⟨h1, h2, h3⟩ := h
      have hw : wi = false := by
        cases wi with
        | false => rfl
        | true =>
          have : badR true (.make n b) = true := by
            show (true && (decide (("make" : Str) = "make") || decide (("make" : Str) = "call"))) = true
            decide +kernel
          rw [this] at hb
          cases hb
      subst hw
      exact ⟨rfl, h1, h2, blk b (by simp [blocks]) h3⟩
    | when n b c =>
      obtain ⟨h1, h2, h3, h4, h5⟩ := h
      have e : (wi || decide (rowWord (.when n b c) = "make")) = wi := by cases wi <;> rfl
      rw [e] at blk
      exact ⟨h1, h2, h3, blk b (by simp [blocks]) h4, blk c (by simp [blocks]) h5⟩
    | try_ b c =>
      obtain ⟨h2, h3, h4, h5⟩ := h
      have e : (wi || decide (rowWord (.try_ b c) = "make")) = wi := by cases wi <;> rfl
      rw [e] at blk
      exact ⟨h2, h3, blk b (by simp [blocks]) h4, blk c (by simp [blocks]) h5⟩
theorem rowG_depth : ∀ (m d : Nat) (p : List Int) (r : Row) (i : Nat), RowG d r → (∀ q ∈ rowW d p (r, i), deepW q ≤ (p.length : Int) + 2 * m + 1) → RowG m r := by
  intro m
  induction m with
  | zero =>
    intro d p r i h hd
    have h1 := hd (p ++ [(i : Int)], r) (by rw [rowWG_eq h]; exact List.mem_cons_self)
    unfold deepW at h1
    cases r with
    | plain w fs => cases d <;> exact h
    | make n b => simp [blocks] at h1; omega
    | when n b c => simp [blocks] at h1; omega
    | try_ b c => simp [blocks] at h1; omega
  | succ m ih =>
    intro d p r i h hd
    have sub : ∀ b ∈ blocks r, ∀ x ∈ b, RowG m x := fun b hb x hx => by
      obtain ⟨e, rfl, hr⟩ := blkG_ok h hb
      obtain ⟨j, hj⟩ := List.getElem?_of_mem hb
      have hj2 : (b, j) ∈ (blocks r).zipIdx := List.mem_of_getElem? (i := j) (by rw [List.getElem?_zipIdx, hj]; simp)
      obtain ⟨k, hk⟩ := List.getElem?_of_mem hx
      have hk2 : (x, k) ∈ b.zipIdx := List.mem_of_getElem? (i := k) (by rw [List.getElem?_zipIdx, hk]; simp)
      refine ih e (p ++ [(i : Int), (j : Int)]) x k (hr x hx) fun q hq => ?_
      have := hd q (by rw [rowWG_eq h]; exact List.mem_cons_of_mem _ (List.mem_flatMap.mpr ⟨_, hj2, List.mem_flatMap.mpr ⟨_, hk2, hq⟩⟩))
      simp
      omega
    cases r with
    | plain w fs => cases d <;> exact h
    | make n b =>
      cases d with
      | zero => exact h.elim
      | succ d => exact ⟨h.1, sub b (by simp [blocks])⟩
    | when n b c =>
      cases d with
      | zero => exact h.elim
      | succ d => exact ⟨h.1, sub b (by simp [blocks]), sub c (by simp [blocks])⟩
    | try_ b c =>
      cases d with
      | zero => exact h.elim
      | succ d => exact ⟨sub b (by simp [blocks]), sub c (by simp [blocks])⟩
theorem rowW_head {d : Nat} {r : Row} (h : RowG d r) (p : List Int) (i : Nat) : 1 ≤ (rowW d p (r, i)).length := by
  rw [rowWG_eq h, List.length_cons]
  omega
theorem walkL_ge {d : Nat} {rs : List Row} (h : ∀ r ∈ rs, RowG d r) (p : List Int) : rs.length ≤ (walkL d p rs).length := by
  rw [walkL_cons]
  have go : ∀ l : List Row, (∀ r ∈ l, RowG d r) → l.length ≤ (l.map fun r => (rowW d [] (r, 0)).length).sum := by
    intro l hl
    induction l with
    | nil => exact Nat.le_refl _
    | cons r l ih =>
      rw [List.map_cons, List.sum_cons, List.length_cons]
      have := rowW_head (hl r List.mem_cons_self) [] 0
      have := ih fun r hr => hl r (List.mem_cons_of_mem _ hr)
      omega
  exact go rs h
theorem rowQ_of : ∀ (d : Nat) (p : List Int) (r : Row) (i : Nat), RowG d r → (∀ q ∈ rowW d p (r, i), ∀ x ∈ numsR q.2, -1000 < x ∧ x < 1000) → (rowW d p (r, i)).length ≤ 24 → RowQ d r := by
  have prs : ∀ {ks : List Bool} {fs : List V}, Paired (fun k v => fldG k v = true) ks fs → (∀ x ∈ fs.filterMap intOf, -1000 < x ∧ x < 1000) → Paired (fun k v => fldOk k v = true) ks fs := fun {ks fs} h2 => by
    induction h2 with
    | nil => exact fun _ => .nil
    | @cons k v ks fs hv _ ih =>
      intro hn'
      refine .cons ?_ (ih fun x hx => hn' x ?_)
      · cases k with
        | true => cases v <;> first | exact hv | cases hv
        | false =>
          cases v with
          | int i =>
            have := hn' i (by rw [List.filterMap_cons]; exact List.mem_cons_self)
            show (decide (-999 ≤ i) && decide (i ≤ 999)) = true
            rw [decide_eq_true (by omega), decide_eq_true (by omega)]
            rfl
          | _ => cases hv
      · rw [List.filterMap_cons]
        cases intOf v with
        | none => exact hx
        | some n => exact List.mem_cons_of_mem _ hx
  have plain : ∀ {w : Str} {fs : List V}, plainG w fs → (∀ x ∈ numsR (.plain w fs), -1000 < x ∧ x < 1000) → plainOk false w fs := fun {w fs} ⟨ks, h1, h2⟩ hn => ⟨ks, h1, prs h2 hn, fun h => by cases h⟩
  intro d
  induction d with
  | zero =>
    intro p r i h hn _
    cases r with
    | plain w fs => exact plain h (hn (p ++ [(i : Int)], .plain w fs) List.mem_cons_self)
    | _ => exact h.elim
  | succ d ih =>
    intro p r i h hn hc
    have sub : ∀ b ∈ blocks r, b.length ≤ 24 ∧ ∀ x ∈ b, RowQ d x := fun b hb => by
      obtain ⟨e, he, hr⟩ := blkG_ok h hb
      obtain rfl : d = e := Nat.succ.inj he
      obtain ⟨j, hj⟩ := List.getElem?_of_mem hb
      have hj2 : (b, j) ∈ (blocks r).zipIdx := List.mem_of_getElem? (i := j) (by rw [List.getElem?_zipIdx, hj]; simp)
      have lb : (walkL d (p ++ [(i : Int), (j : Int)]) b).length ≤ 24 := by
        rw [rowWG_eq h, List.length_cons] at hc
        have h1 : (blkW (d + 1) p i (b, j)).length ≤ ((blocks r).zipIdx.flatMap (blkW (d + 1) p i)).length := by
          obtain ⟨s, t, e⟩ := List.append_of_mem hj2
          rw [e, List.flatMap_append, List.flatMap_cons, List.length_append, List.length_append]
          omega
        have h2 : (blkW (d + 1) p i (b, j)).length = (walkL d (p ++ [(i : Int), (j : Int)]) b).length := rfl
        omega
      refine ⟨Nat.le_trans (walkL_ge hr _) lb, fun x hx => ?_⟩
      obtain ⟨k, hk⟩ := List.getElem?_of_mem hx
      have hk2 : (x, k) ∈ b.zipIdx := List.mem_of_getElem? (i := k) (by rw [List.getElem?_zipIdx, hk]; simp)
      refine ih (p ++ [(i : Int), (j : Int)]) x k (hr x hx) (fun q hq => hn q (by rw [rowWG_eq h]; exact List.mem_cons_of_mem _ (List.mem_flatMap.mpr ⟨_, hj2, List.mem_flatMap.mpr ⟨_, hk2, hq⟩⟩))) ?_
      have h1 : (rowW d (p ++ [(i : Int), (j : Int)]) (x, k)).length ≤ (walkL d (p ++ [(i : Int), (j : Int)]) b).length := by
        unfold walkL
        obtain ⟨s, t, e⟩ := List.append_of_mem hk2
        rw [e, List.flatMap_append, List.flatMap_cons, List.length_append, List.length_append]
        omega
      omega
    have hn0 : ∀ x ∈ numsR r, -1000 < x ∧ x < 1000 := hn (p ++ [(i : Int)], r) (by rw [rowWG_eq h]; exact List.mem_cons_self)
    cases r with
    | plain w fs => exact plain h hn0
    | make n b => exact ⟨h.1, sub b (by simp [blocks])⟩
    | when n b c =>
      have h1 := sub b (by simp [blocks])
      have h2 := sub c (by simp [blocks])
      exact ⟨h.1, h1.1, h2.1, h1.2, h2.2⟩
    | try_ b c =>
      have h1 := sub b (by simp [blocks])
      have h2 := sub c (by simp [blocks])
      exact ⟨h1.1, h2.1, h1.2, h2.2⟩
theorem rowAt_atG {ok : Addr → Prop} {kk : Bool → Bool → Prop} {H : Hp} : ∀ {m d : Nat} {v : V} {r : Row}, RowG m r → RowAt ok kk H d v r → RowAt ok kk H m v r := by
  intro m
  induction m with
  | zero =>
    intro d v r ho h
    cases r with
    | plain w fs => cases d <;> exact h
    | _ => exact ho.elim
  | succ m ih =>
    intro d v r ho h
    cases r with
    | plain w fs => cases d <;> exact h
    | make n b =>
      cases d with
      | zero => exact h.elim
      | succ d =>
        obtain ⟨vb, xs, h1, h2, h3⟩ := h
        exact ⟨vb, xs, h1, h2, paired_impM h3 fun x r hr q => ih (ho.2 r hr) q⟩
    | when n b c =>
      cases d with
      | zero => exact h.elim
      | succ d =>
        obtain ⟨vb, xs, vc, ys, h1, h2, h3, h4, h5⟩ := h
        exact ⟨vb, xs, vc, ys, h1, h2, paired_impM h3 fun x r hr q => ih (ho.2.1 r hr) q, h4, paired_impM h5 fun x r hr q => ih (ho.2.2 r hr) q⟩
    | try_ b c =>
      cases d with
      | zero => exact h.elim
      | succ d =>
        obtain ⟨vb, xs, vc, ys, h1, h2, h3, h4, h5⟩ := h
        exact ⟨vb, xs, vc, ys, h1, h2, paired_impM h3 fun x r hr q => ih (ho.1 r hr) q, h4, paired_impM h5 fun x r hr q => ih (ho.2 r hr) q⟩
/-- a library within the limits -/
structure LibQ (lib : Lib) : Prop where
  few : lib.length ≤ 4
  rows : ∀ m ∈ lib, ∀ r ∈ m.2, RowG 3 r ∧ RowQ 3 r
  len : ∀ m ∈ lib, m.2.length ≤ 24
theorem rowW_deep : ∀ (d e : Nat) (p : List Int) (r : Row) (i : Nat), RowG d r → RowG e r → rowW d p (r, i) = rowW e p (r, i) := by
  intro d
  induction d with
  | zero =>
    intro e p r i h h2
    cases r with
    | plain w fs => rw [rowWG_eq h, rowWG_eq h2]; rfl
    | _ => exact h.elim
  | succ d ih =>
    intro e p r i h h2
    rw [rowWG_eq h, rowWG_eq h2]
    congr 1
    have go : ∀ q ∈ (blocks r).zipIdx, blkW (d + 1) p i q = blkW e p i q := fun q hq => by
      obtain ⟨e1, he1, hr1⟩ := blkG_ok h (mem_zipIdx_fst hq)
      obtain rfl : d = e1 := Nat.succ.inj he1
      obtain ⟨e2, rfl, hr2⟩ := blkG_ok h2 (mem_zipIdx_fst hq)
      show q.1.zipIdx.flatMap _ = q.1.zipIdx.flatMap _
      have one : ∀ x ∈ q.1.zipIdx, rowW d (p ++ [(i : Int), (q.2 : Int)]) x = rowW e2 (p ++ [(i : Int), (q.2 : Int)]) x := fun x hx => by
        obtain ⟨y, k⟩ := x
        exact ih e2 _ y k (hr1 y (mem_zipIdx_fst hx)) (hr2 y (mem_zipIdx_fst hx))
      rw [List.flatMap_def, List.flatMap_def, List.map_congr_left one]
    rw [List.flatMap_def, List.flatMap_def, List.map_congr_left go]
theorem libQ_of {d : Nat} {lib : Lib} (hG : ∀ m ∈ lib, ∀ r ∈ m.2, RowG d r) (h : withinB d lib = true) : LibQ lib := by
  unfold withinB at h
  simp only [Bool.and_eq_true, decide_eq_true_eq] at h
  obtain ⟨h1, h2, h3, h4, h5⟩ := h
  have mem : ∀ {m : Str × List Row} {q : List Int × Row}, m ∈ lib → q ∈ walkL d [] m.2 → q ∈ allW d lib := fun hm hq => List.mem_flatMap.mpr ⟨_, hm, hq⟩
  have lenM : ∀ m ∈ lib, (walkL d [] m.2).length ≤ 24 := fun m hm => by
    obtain ⟨s, t, e⟩ := List.append_of_mem hm
    unfold allW at h2
    rw [e, List.flatMap_append, List.flatMap_cons, List.length_append, List.length_append] at h2
    omega
  refine ⟨h1, fun m hm r hr => ?_, fun m hm => Nat.le_trans (walkL_ge (hG m hm) []) (lenM m hm)⟩
  obtain ⟨k, hk⟩ := List.getElem?_of_mem hr
  have hk2 : (r, k) ∈ m.2.zipIdx := List.mem_of_getElem? (i := k) (by rw [List.getElem?_zipIdx, hk]; simp)
  have hq : ∀ q ∈ rowW d [] (r, k), q ∈ allW d lib := fun q hq => mem hm (List.mem_flatMap.mpr ⟨_, hk2, hq⟩)
  have g3 : RowG 3 r := rowG_depth 3 d [] r k (hG m hm r hr) fun q h => by
    have := of_decide_eq_true (List.all_eq_true.mp h4 q (hq q h))
    simp
    omega
  have e3 := rowW_deep d 3 [] r k (hG m hm r hr) g3
  refine ⟨g3, rowQ_of 3 [] r k g3 (fun q h x hx => ?_) ?_⟩
  · rw [← e3] at h
    have := List.all_eq_true.mp (List.all_eq_true.mp h5 q (hq q h)) x hx
    rw [Bool.and_eq_true] at this
    exact ⟨of_decide_eq_true this.1, of_decide_eq_true this.2⟩
  · rw [← e3]
    refine Nat.le_trans ?_ (lenM m hm)
    unfold walkL
    obtain ⟨s, t, e⟩ := List.append_of_mem hk2
    rw [e, List.flatMap_append, List.flatMap_cons, List.length_append, List.length_append]
    omega
end Ft
set_option Elab.async false
set_option linter.all false
set_option maxRecDepth 100000
set_option maxHeartbeats 1000000
set_option pp.maxSteps 3000
set_option pp.deepTerms.threshold 8
namespace Ft
open PySem L2
/-- what is told of the first wrong row -/
def FoundAt (H : Hp) (x : V) : Option (List Int) → Prop
  | none => x = .non
  | some y => PathAt H x y
section
variable {P : Program} {w : World} {K : PySem.W.Frag} {mg : Str → Option Value} {base : Heap}
theorem ok_BlocksOfG {f dF : Addr} {fd : FuncData} {k : Nat} (F : Fun K "blocks_of" "blocks_of" sBlocksOf f fd) (B : Bl mg) (TF : FldT K w mg dF) : FnOk P w K mg base CX0 (k + 1) f fd ["row"] spBlocksG := by
  obtain ⟨es, nn, D⟩ := TF.dict
  refine F.ok scBlocksOf (fun vs H Q E h => ?_) (fun cdv A outer s H vs Q E hr h => ?_)
  · obtain ⟨v, ok, kk, d, r, rfl, _⟩ := h
    rfl
  obtain ⟨v, ok, kk, d, r, rfl, hok, hat, q⟩ := h
  refine ⟨_, (pss_one (ps_ret (pe_lc (own := [("field", 1), ("part", 2)]) (g := (gTup _ 2 (gCons (gName 1) (gCons (gName 2) gNil)))) (by rfl) scBlocksOf.nd (pi_zipQ (by rfl) B.zip (pa_cons (pe_ix ix_kdict (pe_glob (v := .ref dF) (by rfl) TF.g rfl) (pe_ix ix_seq (pv 0) pe_int (fun _ _ => rfl)) (fun _ _ => rfl)) (pa_cons (pe_slice sl_seq (pv 0) (po_some pe_int) po_none) pa_nil))) (blkOk_by (own := [("field", 1), ("part", 2)]) (N := ["row", "field", "part"]) (sc := defScope sBlocksOf) (by decide +kernel)) (fun _ _ _ _ _ => (pg_tup (by rfl) (pgs_cons (pg_name (i := 1) scBlocksOf.nd rfl (by first | exact Or.inl rfl | exact Or.inr rfl)) (pgs_cons (pg_name (i := 2) scBlocksOf.nd rfl (by first | exact Or.inl rfl | exact Or.inr rfl)) pgs_nil)))) (fun _ _ _ _ _ => (pts_one (pt_cmpR op_eq (pv 1) pe_str (nomark _)))) (fun _ _ _ _ _ => (pv 2))))), ?_⟩
  have rf := rowGF_of hok
  obtain ⟨rest, ⟨a, kd, rfl, oka, kka, ha⟩, hrest⟩ := rowVG_of hok hat
  have hfs := fieldsOf_some rf.names
  obtain ⟨tA, hn, htA⟩ := TF.val _ hfs
  have ix : ∀ {Q' : VK}, Q' (.str (rowWord r)) H → rIx K (.ref a) (.int 0) H Q' := fun h => rIx_seq (sq_of ha) (atI_nat (j := 0) rfl) h
  refine ⟨_, rfl, ix ⟨dF, rowWord r, .ref tA, rfl, rfl, ⟨es, nn, .ref tA, D.at_, D.lit, hn, rfl⟩, ?_⟩⟩
  refine ⟨_, rfl, 1, rfl, rSl1 ha fun p G sm np hp => ?_⟩
  have lr : rest.length = (flds r).length := paired_len hrest
  have few := rf.few
  refine ⟨tA, p, false, kd, _, rest, rfl, htA G, sq_of hp, fun L nL => ?_⟩
  refine lc_it (walk_zipQ (n := (flds r).length) (by rw [List.length_map, List.length_map]; omega)) (fun i H' => Same G H' ∧ ∃ ys, H' L = some (.lst ys) ∧ Paired (BlkAt ok kk H d) ys (((flds r).take i).filterMap blkOf) ∧ ys.length ≤ i)
    ⟨Same.new nL, [], upd_same, .nil, Nat.le_refl _⟩ (fun i H' _ ⟨s4, _⟩ => ⟨htA H', sq_of (s4 _ _ hp)⟩) ?_ ?_
  · rintro i x H1 H2 hi ⟨s4, ys, hL, hys, hle⟩ ⟨T, x1, x2, rfl, nT, rfl, e1, e2⟩
    obtain ⟨ff, hff, hx2⟩ := paired_get hrest e2
    obtain rfl : x1 = .str ff.1 := by
      have e1' : (((flds r).map (·.1)).map V.str)[i]? = some x1 := e1
      rw [List.getElem?_map, List.getElem?_map, hff] at e1'
      exact (Option.some.inj e1').symm
    have fok := rf.ok ff (List.mem_of_getElem? hff)
    have s5 : Same G (upd H1 T (.tup [.str ff.1, x2])) := Same.trans s4 (Same.new nT)
    have nLT : L ≠ T := ne_of_none hL nT
    have hL2 : (upd H1 T (.tup [.str ff.1, x2])) L = some (.lst ys) := by rw [upd_ne nLT]; exact hL
    have et : (flds r).take (i + 1) = (flds r).take i ++ [ff] := by rw [List.take_add_one, hff]; rfl
    refine ⟨T, _, rfl, SqT.of upd_same, rfl, _, _, rfl, _, _, rfl, rfl, rfl, ?_⟩
    refine ⟨_, rfl, rfl, _, rfl, ite2 (fun c => ?_) (fun c => ?_)⟩
    · have ec : ff.1 = "block" := V.str.inj (of_decide_eq_true c)
      cases hfl : ff.2 with
      | «at» v =>
        rw [hfl] at fok
        rcases fok with ⟨h, _⟩ | ⟨h, _⟩
        · rw [ec] at h; exact absurd h (by decide)
        · rw [ec] at h; exact absurd h (by decide)
      | blk b =>
        rw [hfl] at hx2
        refine ⟨_, rfl, ys, hL2, small (by omega), Same.upN s5 nL, ys ++ [x2], upd_same, ?_, by simp; omega⟩
        rw [et, List.filterMap_append]
        have eb : List.filterMap blkOf [ff] = [b] := by
          rw [List.filterMap_cons, List.filterMap_nil]
          unfold blkOf
          rw [hfl]
        rw [eb]
        exact paired_app (show BlkAt ok kk H d x2 b from hx2) hys
    · have ec : ff.1 ≠ "block" := fun h => c (by rw [h]; exact decide_eq_true rfl)
      cases hfl : ff.2 with
      | blk b =>
        rw [hfl] at fok
        exact absurd fok.1 ec
      | «at» v =>
        refine ⟨s5, ys, hL2, ?_, by omega⟩
        rw [et, List.filterMap_append]
        have eb : List.filterMap blkOf [ff] = [] := by
          rw [List.filterMap_cons, List.filterMap_nil]
          unfold blkOf
          rw [hfl]
        rw [eb, List.append_nil]
        exact hys
  · rintro H1 ⟨s4, ys, hL, hys, hle⟩
    rw [List.take_length] at hys
    have eb : blocks r = (flds r).filterMap blkOf := rf.blk
    rw [← eb] at hys
    exact q _ L ys (Same.trans sm s4) (Same.free sm nL) hL hys
def spFirstWrongG (d : Nat) : Sp := fun vs H Q _ => ∃ (v pv : V) (ok : Addr → Prop) (kk : Bool → Bool → Prop) (wi : Bool) (rs : List Row) (p : List Int), vs = [v, pv, .bl wi] ∧ RowsAt ok kk H d v rs ∧ (∀ r ∈ rs, RowG d r) ∧ PathAt H pv p ∧ p.length + 2 * d ≤ 100 ∧
  ∀ H', Same H H' → ∀ x, FoundAt H' x (firstL d wi p rs) → Q x H'
theorem ok_FirstWrongG {f : Addr} {fd : FuncData} {k d : Nat} {spF : Sp} (F : Fun K "first_wrong" "first_wrong" sFirstWrong f fd) (B : Bl mg) (hk : 4 ≤ k) (gIsRow : Own P w K mg base 4 "is_row" ["thing", "is_within"] (spIsRow K)) (gBlocksOf : Own P w K mg base 1 "blocks_of" ["row"] spBlocksG)
    (gFirstWrong : Own P w K mg base k "first_wrong" ["rows", "path", "is_within"] spF) (hF : ∀ e, d = e + 1 → spF = spFirstWrongG e) : FnOk P w K mg base CX0 (k + 1) f fd ["rows", "path", "is_within"] (spFirstWrongG d) := by
  refine F.ok scFirstWrong (fun vs H Q E h => ?_) (fun cdv A outer s H vs Q E hr h => ?_)
  · obtain ⟨v, pv, ok, kk, wi, rs, p, rfl, _⟩ := h
    rfl
  obtain ⟨v, pv, ok, kk, wi, rs, p, rfl, ⟨xs, ⟨a, kd, rfl, oka, kka, ha⟩, hxs⟩, hok, ⟨pa, rfl, hpa⟩, hpl, q⟩ := h
  refine ⟨_, (pss_cons (ps_for PassesOwn.never rfl (pi_enumQ (by rfl) B.enumerate (pa_cons (pv 0) pa_nil)) (pg_tup (by rfl) (pgs_cons (pg_name (i := 3) scFirstWrong.nd rfl (by first | exact Or.inl rfl | exact Or.inr rfl)) (pgs_cons (pg_name (i := 4) scFirstWrong.nd rfl (by first | exact Or.inl rfl | exact Or.inr rfl)) pgs_nil))) (pss_cons (ps_set (i := 5) scFirstWrong.nd rfl (by first | exact Or.inl rfl | exact Or.inr rfl) (pe_mid (pe_op op_catA (pv 1) (pe_tup (pa_cons (pv 3) pa_nil)))))
      (pss_cons (ps_if (pt_not (pt_val (pe_own gIsRow (hr.mono (by omega)) (by rfl) (pa_cons (pv 4) (pa_cons (pv 2) pa_nil))))) (pss_one (ps_ret (pv 5))) pss_nil)
      (pss_one (ps_for PassesOwn.never rfl (pi_enumQ (by rfl) B.enumerate (pa_cons (pe_own gBlocksOf (hr.mono (by omega)) (by rfl) (pa_cons (pv 4) pa_nil)) pa_nil)) (pg_tup (by rfl) (pgs_cons (pg_name (i := 6) scFirstWrong.nd rfl (by first | exact Or.inl rfl | exact Or.inr rfl)) (pgs_cons (pg_name (i := 7) scFirstWrong.nd rfl (by first | exact Or.inl rfl | exact Or.inr rfl)) pgs_nil))) (pss_cons (ps_set (i := 8) scFirstWrong.nd rfl (by first | exact Or.inl rfl | exact Or.inr rfl) (pe_own gFirstWrong (hr.mono (by omega)) (by rfl) (pa_cons (pv 7) (pa_cons (pe_mid (pe_op op_catA (pv 5) (pe_tup (pa_cons (pv 6) pa_nil)))) (pa_cons (pe_mid (pe_or (pv 2) (pe_one (pe_cmpR op_eq (pe_ix ix_seq (pv 4) pe_int (fun _ _ => rfl)) pe_str (nomark _))))) pa_nil)))))
      (pss_one (ps_if (pt_cmpR op_notN (pv 8) pe_non (nomark _)) (pss_one (ps_ret (pv 8))) pss_nil))))))))
      (pss_one (ps_ret pe_non))), ?_⟩
  refine ⟨_, rfl, a, kd, xs, rfl, sq_of ha, ?_⟩
  refine for_it walk_enumQ (fun i σ H' => (rs.zipIdx.take i).findSome? (firstR d wi p) = none ∧ Same H H' ∧ ∃ v3 v4 v5 v6 v7 v8, σ = [some (.ref a), some (.ref pa), some (.bl wi), v3, v4, v5, v6, v7, v8])
    ⟨rfl, Same.refl H, none, none, none, none, none, none, rfl⟩ (fun i σ H' _ ⟨_, sm, _⟩ => sq_of (sm _ _ ha)) ?_ ?_
  · rintro i x σ H1 H2 hi ⟨hno, sm, v3, v4, v5, v6, v7, v8, rfl⟩ ⟨T, x1, x2, rfl, nT, rfl, e1, e2⟩
    have e1' : x1 = .int (i : Nat) := (Option.some.inj e1).symm
    subst e1'
    obtain ⟨r, hr', hrow⟩ := paired_get hxs e2
    have rok := hok r (List.mem_of_getElem? hr')
    have ez : rs.zipIdx[i]? = some (r, i) := by rw [List.getElem?_zipIdx, hr']; simp
    have eR := firstR_eq rok wi p i
    have found : ∀ {y}, firstR d wi p (r, i) = some y → firstL d wi p rs = some y := fun {y} h => by
      unfold firstL
      have e : rs.zipIdx = rs.zipIdx.take i ++ (r, i) :: rs.zipIdx.drop (i + 1) := by
        have h1 := List.take_append_drop i rs.zipIdx
        rw [List.drop_eq_getElem_cons (by exact (List.getElem?_eq_some_iff.mp ez).1)] at h1
        rw [(List.getElem?_eq_some_iff.mp ez).2] at h1
        exact h1.symm
      rw [e, List.findSome?_append, hno, List.findSome?_cons, h]
      rfl
    have go : firstR d wi p (r, i) = none → (rs.zipIdx.take (i + 1)).findSome? (firstR d wi p) = none := fun h => by
      rw [List.take_add_one, ez, List.findSome?_append, hno]
      show List.findSome? (firstR d wi p) [(r, i)] = none
      rw [List.findSome?_cons, h]
      rfl
    have s2 : Same H (upd H1 T (.tup [.int (i : Nat), x2])) := Same.trans sm (Same.new nT)
    refine ⟨T, _, rfl, SqT.of upd_same, rfl, _, _, rfl, _, _, rfl, rfl, ?_⟩
    generalize hG : upd H1 T _ = G at *
    -- here = path + (k,)
    refine ⟨fun v H' => ∃ b, v = .ref b ∧ H' b = some (.tup ((p ++ [(i : Int)]).map V.int)) ∧ Same G H', ?_, ?_⟩
    · refine ⟨_, rfl, _, rfl, (by show 1 ≤ sizeLine; decide), fun t1 nt1 => ?_⟩
      refine ⟨pa, t1, p.map V.int, [.int (i : Nat)], rfl, rfl, SqT.of (Same.new nt1 _ _ (s2 _ _ hpa)), SqT.of upd_same, smallE (by rw [List.length_map]; simp; omega), fun e => ?_, fun _ e => (nomatch e), fun _ _ t2 nt2 => ?_⟩
      · have ep : p = [] := List.map_eq_nil_iff.mp e
        subst ep
        exact ⟨t1, rfl, upd_same, Same.new nt1⟩
      · exact ⟨t2, rfl, by rw [upd_same, List.map_append]; rfl, Same.trans (Same.new nt1) (Same.new nt2)⟩
    rintro hv G1 ⟨hb, rfl, hhb, s3⟩
    have s4 : Same H G1 := Same.trans s2 s3
    have hrow1 : RowAt ok kk G1 d x2 r := hrow.to (Keep.fr (Fr.same s4) fun _ k => k)
    obtain ⟨rest, ⟨ra, rkd, rfl, roka, rkka, hra⟩, hrest⟩ := rowVG_of rok hrow1
    have rf := rowGF_of rok
    have few := rf.few
    have lr : rest.length = (flds r).length := paired_len hrest
    obtain ⟨hkn, hrb⟩ := rowG_known (K := K) (wi := wi) rok hrest
    refine ⟨_, rfl, _, rfl, .ref ra, wi, rfl, .inr ⟨ra, rkd, _, isRef, rfl, hra, by simp; omega, hkn, fun G2 s5 => ?_⟩⟩
    rw [hrb]
    refine ⟨_, rfl, ?_⟩
    have s6 : Same H G2 := Same.trans s4 s5
    have ebad : (wi && (decide (rowWord r = "make") || decide (rowWord r = "call"))) = badR wi r := rfl
    rw [ebad]
    cases hbad : badR wi r with
    | true =>
      rw [if_pos hbad] at eR
      have := found eR
      rw [this] at q
      exact iteT ⟨_, rfl, q _ s6 _ ⟨hb, rfl, s5 _ _ hhb⟩⟩
    | false =>
    rw [if_neg (by rw [hbad]; exact Bool.false_ne_true)] at eR
    refine iteF ?_
    have hrow2 : RowAt ok kk G2 d (.ref ra) r := hrow1.to (Keep.fr (Fr.same s5) fun _ k => k)
    refine ⟨_, rfl, .ref ra, ok, kk, d, r, rfl, rok, hrow2, fun G3 bl ys s7 nb hbl hys => ?_⟩
    have lb : ys.length ≤ 3 := by
      rw [paired_len hys, rf.blk]
      exact Nat.le_trans (List.length_filterMap_le _ _) few
    refine ⟨bl, true, ys, rfl, sq_of hbl, ?_⟩
    refine for_it walk_enumQ (fun j σ H' => ((blocks r).zipIdx.take j).findSome? (firstB d (wi || decide (rowWord r = "make")) p i) = none ∧ Same G3 H' ∧ ∃ v6 v7 v8, σ = [some (.ref a), some (.ref pa), some (.bl wi), some (.int (i : Nat)), some (.ref ra), some (.ref hb), v6, v7, v8])
      ⟨rfl, Same.refl _, v6, v7, v8, rfl⟩ (fun j σ H' _ ⟨_, sm, _⟩ => sq_of (kd := true) (sm _ _ hbl)) ?_ ?_
    · rintro j y σ H3 H4 hj ⟨hnb, sm4, w6, w7, w8, rfl⟩ ⟨T2, y1, y2, rfl, nT2, rfl, f1, f2⟩
      have f1' : y1 = .int (j : Nat) := (Option.some.inj f1).symm
      subst f1'
      obtain ⟨b, hb', hblk⟩ := paired_get hys f2
      obtain ⟨e, rfl, hrows⟩ := hblk
      have eF := hF e rfl
      subst eF
      have s8 : Same G3 (upd H3 T2 (.tup [.int (j : Nat), y2])) := Same.trans sm4 (Same.new nT2)
      refine ⟨T2, _, rfl, SqT.of upd_same, rfl, _, _, rfl, _, _, rfl, rfl, ?_⟩
      generalize hG4 : upd H3 T2 _ = G4 at *
      have s9 : Same G1 G4 := Same.trans s5 (Same.trans s7 s8)
      have hhb4 : G4 hb = some (.tup ((p ++ [(i : Int)]).map V.int)) := s9 _ _ hhb
      obtain ⟨e', he', bok⟩ := blkG_ok rok (List.mem_of_getElem? hb')
      obtain rfl : e = e' := Nat.succ.inj he'
      have ezb : (blocks r).zipIdx[j]? = some (b, j) := by rw [List.getElem?_zipIdx, hb']; simp
      refine ⟨_, rfl, fun v H' => ∃ c, v = .ref c ∧ H' c = some (.tup ((p ++ [(i : Int)] ++ [(j : Int)]).map V.int)) ∧ Same G4 H', ?_, ?_⟩
      · refine ⟨_, rfl, _, rfl, (by show 1 ≤ sizeLine; decide), fun t1 nt1 => ?_⟩
        refine ⟨hb, t1, _, [.int (j : Nat)], rfl, rfl, SqT.of (Same.new nt1 _ _ hhb4), SqT.of upd_same, smallE (by rw [List.length_map]; simp; omega), fun e => (by simp at e), fun _ e => (nomatch e), fun _ _ t2 nt2 => ?_⟩
        exact ⟨t2, rfl, by rw [upd_same, List.map_append (l₁ := p ++ [(i : Int)])]; rfl, Same.trans (Same.new nt1) (Same.new nt2)⟩
      rintro cv G5 ⟨c, rfl, hc, s10⟩
      have s11 : Same G2 G5 := Same.trans s7 (Same.trans s8 s10)
      refine ⟨fun v H' => v = .bl (wi || decide (rowWord r = "make")) ∧ G5 = H', ?_, ?_⟩
      · refine ⟨_, rfl, wi, rfl, ?_⟩
        cases wi with
        | true => exact iteT ⟨rfl, rfl⟩
        | false =>
          have hra5 := Same.trans s5 s11 _ _ hra
          refine iteF ⟨_, rfl, rIx_seq (sq_of hra5) (atI_nat (j := 0) rfl) ⟨rfl, ?_, rfl⟩⟩
          rw [Bool.false_or]
          have : (V.str (rowWord r) = V.str "make") ↔ (rowWord r = "make") := ⟨fun e => V.str.inj e, fun e => by rw [e]⟩
          rw [decide_eq_decide.mpr this]
      rintro _ _ ⟨rfl, rfl⟩
      have hrows5 : RowsAt ok kk G5 e y2 b := hrows.to (Keep.fr (Fr.same s11) fun _ k => k)
      have eB : firstB (e + 1) (wi || decide (rowWord r = "make")) p i (b, j) = firstL e (wi || decide (rowWord r = "make")) (p ++ [(i : Int)] ++ [(j : Int)]) b := by
        show firstL e _ (p ++ [(i : Int), (j : Int)]) b = _
        rw [List.append_assoc]
        rfl
      refine ⟨y2, .ref c, ok, kk, _, b, p ++ [(i : Int)] ++ [(j : Int)], rfl, hrows5, bok, ⟨c, rfl, hc⟩, by simp; omega, fun G6 s12 x hx => ?_⟩
      have s16 := Same.trans s8 (Same.trans s10 s12)
      rw [← eB] at hx
      cases hf : firstB (e + 1) (wi || decide (rowWord r = "make")) p i (b, j) with
      | some y =>
        rw [hf] at hx
        obtain ⟨xa, rfl, hxa⟩ := hx
        have : (blocks r).zipIdx.findSome? (firstB (e + 1) (wi || decide (rowWord r = "make")) p i) = some y := by
          have e : (blocks r).zipIdx = (blocks r).zipIdx.take j ++ (b, j) :: (blocks r).zipIdx.drop (j + 1) := by
            have h1 := List.take_append_drop j (blocks r).zipIdx
            rw [List.drop_eq_getElem_cons (by exact (List.getElem?_eq_some_iff.mp ezb).1)] at h1
            rw [(List.getElem?_eq_some_iff.mp ezb).2] at h1
            exact h1.symm
          rw [e, List.findSome?_append, hnb, List.findSome?_cons, hf]
          rfl
        have h2 := found (eR.trans this)
        rw [h2] at q
        exact ⟨_, rfl, rfl, _, rfl, iteT ⟨_, rfl, q _ (Same.trans s6 (Same.trans s7 s16)) _ ⟨xa, rfl, hxa⟩⟩⟩
      | none =>
        rw [hf] at hx
        obtain rfl : x = .non := hx
        refine ⟨_, rfl, rfl, _, rfl, iteF ⟨?_, s16, _, _, _, rfl⟩⟩
        rw [List.take_add_one, ezb, List.findSome?_append, hnb]
        show List.findSome? _ [(b, j)] = none
        rw [List.findSome?_cons, hf]
        rfl
    · rintro σ H3 ⟨hnb, sm4, w6, w7, w8, rfl⟩
      rw [List.take_of_length_le (by rw [List.length_zipIdx, paired_len hys]; exact Nat.le_refl _)] at hnb
      exact ⟨go (eR.trans hnb), Same.trans s6 (Same.trans s7 sm4), _, _, _, _, _, _, rfl⟩
  · rintro σ H1 ⟨hno, sm, v3, v4, v5, v6, v7, v8, rfl⟩
    rw [List.take_of_length_le (by rw [List.length_zipIdx, paired_len hxs]; exact Nat.le_refl _)] at hno
    have hno : firstL d wi p rs = none := hno
    rw [hno] at q
    exact q _ sm _ rfl
theorem firstWrongG_ok {f : Addr} {fd : FuncData} (F : Fun K "first_wrong" "first_wrong" sFirstWrong f fd) (B : Bl mg) (m : mg "first_wrong" = some (.ref f)) (b : Binds K fd ["rows", "path", "is_within"] []) (gIsRow : Own P w K mg base 4 "is_row" ["thing", "is_within"] (spIsRow K)) (gBlocksOf : Own P w K mg base 1 "blocks_of" ["row"] spBlocksG) :
    ∀ d : Nat, Own P w K mg base (5 + d) "first_wrong" ["rows", "path", "is_within"] (spFirstWrongG d)
  | 0 => own_mk F m b (ok_FirstWrongG (k := 4) F B (by omega) gIsRow gBlocksOf (own_mk F m b fn_false) (fun e h => absurd h (by omega)))
  | d + 1 => own_mk F m b (ok_FirstWrongG (k := 5 + d) F B (by omega) gIsRow gBlocksOf (firstWrongG_ok F B m b gIsRow gBlocksOf d) (fun e h => by
      have : d = e := by omega
      rw [this]))
end
end Ft
set_option Elab.async false
set_option linter.all false
set_option maxRecDepth 100000
set_option maxHeartbeats 4000000
set_option Elab.async false
set_option linter.all false
set_option maxRecDepth 100000
set_option maxHeartbeats 1000000
set_option pp.maxSteps 3000
set_option pp.deepTerms.threshold 8
namespace Ft
open PySem PySem.Spec PyProof.Rows L2 ClX
section
variable {X : Cx} {k : Nat} {C p g : Addr} {mc : Value} {fd : FuncData} {ps ks : List Str} {sp : Sp} {m x : Str} {pos apos : Pos} {o : Expr} {kws : List Keyword} {ta : TE} {tk : TA}
/-- x(e, ..), x a name of the def that holds the class at C -/
def tMakeL (i : Nat) (C : Addr) (sp : Sp) (dvs : List V) (E : XK) (t : TA) : TE := fun σ H Q => σ[i]? = some (some (.ref C)) ∧ tMake C sp dvs E t σ H Q
theorem pe_makeL {X : Cx} {CX : CXT} {k i : Nat} {f C : Addr} {fd : FuncData} {ps : List Str} {sp : Sp} {dvs : List V} {ds : List Value} {E : XK} {x : Str} {p pos : Pos} {e : Expr} {es : List Expr} {t : TA} (M : Mk X.K C f) (F : FnOk X.prog X.w X.K X.mg X.base CX k f fd ps sp) (hr : Room (k + 1) X.A) (hb : Binds X.K fd ps ds) (hd : Vals dvs ds) (hx : Passes CX X E)
    (ha : PA X (e :: es) t) (hN : X.N[i]? = some x := by rfl) (hv : Vis X.env.scope x := by first | exact .inl rfl | exact .inr rfl) (hdb : (x == ("__debug__" : Str)) = false := by decide) (hcd : (x == ("__classdict__" : Str)) = false := by decide)
    (he : starEach (e :: es) X.env = (false, eval e X.env) :: starEach es X.env := by rfl) (hpl : (backTo pos (starEach es X.env)).any (·.1) = false := by rfl) :
    PE X (.Call (.Name x p) (e :: es) [] pos) (tMakeL i C sp dvs E t) := by
  refine ⟨fun pins s σ H Q I h => ?_⟩
  obtain ⟨hs, ht⟩ := h
  refine wpAny_Call_Name_kw (thn ((pe_var (pos := p) hN hv hdb hcd).run pins s σ H (fun v H1 => v = .ref C ∧ H1 = H) I ⟨.ref C, hs, rfl, rfl⟩) fun u s1 ⟨v, H1, I1, r1, q1⟩ => ?_)
  obtain ⟨rfl, rfl⟩ := q1
  cases r1
  refine PySem.W.callWith_K (h₀ := X.base) I.ok.mod.kin M.kp (thn (ha.run pos pins s1 σ _ _ I1 ht) fun us s2 ⟨vs, H2, I2, r, q⟩ => ⟨I2.kIn, ?_⟩) he hpl
  exact run_make M F hr hb hd hx I2 r q
end
section
variable {P : PySem.Program} {w : World} {K : PySem.W.Frag} {mg : Str → Option Value} {base : Heap}
abbrev sProgramRead : Stmt := inClass (topS 28) 8
theorem scProgramRead : FnScope ["cls", "text"] ["cls", "text"] (defScope sProgramRead) := ⟨rfl, rfl, rfl, by decide +kernel, rfl, by decide +kernel, by decide +kernel⟩
end
end Ft
set_option Elab.async false
set_option linter.all false
set_option maxRecDepth 100000
set_option maxHeartbeats 1000000
set_option pp.maxSteps 3000
set_option pp.deepTerms.threshold 8
namespace Ft
open PySem PySem.Spec PyProof.Rows L2 ClX
section
variable {P : PySem.Program} {w : World} {K : PySem.W.Frag} {mg : Str → Option Value} {base : Heap}
/-- Program.read of a text that is none -/
def spProgramReadT (C CT : Addr) (d : Nat) : Sp := fun vs H _ E => ∃ (text : Str) (L : List Str) (e : Nat), vs = [.ref C, .str text] ∧ LinesIn text L ∧ text.length ≤ 14000000 ∧ LnOk L ∧ d ≤ 900 ∧ ModsE L (d + 1) 0 Str.empty e ∧ XBad CT "line" (.int (e : Nat)) H E
theorem ok_ProgramReadT {f fI C CT : Addr} {fd fdI : FuncData} {k d : Nat} (F : Fun K "read" "Program.read" sProgramRead f fd) (hk : 4 + 2 * d + 1 ≤ k) (hk2 : 11 ≤ k) (M : Mk K C fI) (FI : FnOk P w K mg base CX0 10 fI fdI ["self", "modules"] (spProgramInit C)) (bI : Binds K fdI ["self", "modules"] [])
    (gEReadModules : OwnE P w K mg base (4 + 2 * d + 1) "read_modules" ["text"] (fun vs H Q E => spReadModulesD d vs H Q E ∨ spReadModulesE d CT vs H Q E)) : FnOk P w K mg base (L2N.CX P w) (k + 1) f fd ["cls", "text"] (spProgramReadT C CT d) := by
  refine okN F scProgramRead (fun vs H Q E h => ?_) (fun cdv A outer s H vs Q E hr h => ?_)
  · obtain ⟨t, L, e, rfl, _⟩ := h
    rfl
  obtain ⟨t, L, e, rfl, hsp, htl, lok, hd, hrd, q⟩ := h
  refine ⟨_, (pss_one (ps_ret (pe_makeL (i := 0) M FI (hr.mono (by omega)) bI .nil pass0 (pa_cons (pe_ownE gEReadModules (hr.mono (by omega)) (L2N.takes_of rfl rfl rfl rfl) (by rfl) (pa_cons (pv 1) pa_nil)) pa_nil)))), ?_⟩
  exact ⟨rfl, _, rfl, .inr ⟨t, L, e, rfl, hsp, htl, lok, hd, hrd, q⟩⟩
theorem rowAt_at {ok : Addr → Prop} {kk : Bool → Bool → Prop} {H : Hp} : ∀ {m d : Nat} {wi : Bool} {v : V} {r : Row}, RowOk m wi r → RowAt ok kk H d v r → RowAt ok kk H m v r := by
  intro m
  induction m with
  | zero =>
    intro d wi v r ho h
    cases r with
    | plain w fs => cases d <;> exact h
    | _ => exact ho.elim
  | succ m ih =>
    intro d wi v r ho h
    cases r with
    | plain w fs => cases d <;> exact h
    | make n b =>
      cases d with
      | zero => exact h.elim
      | succ d =>
        obtain ⟨vb, xs, h1, h2, h3⟩ := h
        exact ⟨vb, xs, h1, h2, paired_impM h3 fun x r hr q => ih (ho.2.2.2 r hr) q⟩
    | when n b c =>
      cases d with
      | zero => exact h.elim
      | succ d =>
        obtain ⟨vb, xs, vc, ys, h1, h2, h3, h4, h5⟩ := h
        exact ⟨vb, xs, vc, ys, h1, h2, paired_impM h3 fun x r hr q => ih (ho.2.2.2.1 r hr) q, h4, paired_impM h5 fun x r hr q => ih (ho.2.2.2.2 r hr) q⟩
    | try_ b c =>
      cases d with
      | zero => exact h.elim
      | succ d =>
        obtain ⟨vb, xs, vc, ys, h1, h2, h3, h4, h5⟩ := h
        exact ⟨vb, xs, vc, ys, h1, h2, paired_impM h3 fun x r hr q => ih (ho.2.2.1 r hr) q, h4, paired_impM h5 fun x r hr q => ih (ho.2.2.2 r hr) q⟩
theorem libAt_of {d : Nat} {ok : Addr → Prop} {kk : Bool → Bool → Prop} {H : Hp} {kvs : List (Key × V)} {lib : Lib} (h : LibAtD d ok kk H kvs lib) (hr : ∀ m ∈ lib, ∀ r ∈ m.2, RowOk 3 false r) : LibAt ok kk H kvs lib :=
  paired_impM h fun kv m hm ⟨e, xs, h1, h2⟩ => ⟨e, xs, h1, paired_impM h2 fun v r hr2 q => rowAt_at (hr m hm r hr2) q⟩
def spProgramReadD (C : Addr) (d : Nat) : Sp := fun vs H Q _ => ∃ (text : Str) (L : List Str) (lib : Lib), vs = [.ref C, .str text] ∧ LinesIn text L ∧ text.length ≤ 14000000 ∧ LnOk L ∧ d ≤ 900 ∧ RdMods L (d + 1) 0 Str.empty lib ∧ LibR lib ∧
  ∀ H' x dx rd sl lib2, Same H H' → H x = none → ProgAt (fun y => H y = none) H' C x dx rd sl lib2 → lib2.Perm lib → PyProof.Rows.sortedS (lib2.map (·.1)) = true → H rd = none → H sl = none → Q (.ref x) H'
theorem ok_ProgramReadD {f fI C : Addr} {fd fdI : FuncData} {k d : Nat} (F : Fun K "read" "Program.read" sProgramRead f fd) (hk : 4 + 2 * d + 1 ≤ k) (hk2 : 11 ≤ k) (M : Mk K C fI) (FI : FnOk P w K mg base CX0 10 fI fdI ["self", "modules"] (spProgramInit C)) (bI : Binds K fdI ["self", "modules"] [])
    (gReadModules : Own P w K mg base (4 + 2 * d + 1) "read_modules" ["text"] (spReadModulesD d)) : FnOk P w K mg base CX0 (k + 1) f fd ["cls", "text"] (spProgramReadD C d) := by
  refine F.ok scProgramRead (fun vs H Q E h => ?_) (fun cdv A outer s H vs Q E hr h => ?_)
  · obtain ⟨t, L, lib, rfl, _⟩ := h
    rfl
  obtain ⟨t, L, lib, rfl, hsp, htl, lok, hd9, hrd, lr, q⟩ := h
  refine ⟨_, (pss_one (ps_ret (pe_makeL (i := 0) M FI (hr.mono (by omega)) bI .nil pass0 (pa_cons (pe_own gReadModules (hr.mono (by omega)) (by rfl) (pa_cons (pv 1) pa_nil)) pa_nil)))), ?_⟩
  refine ⟨rfl, _, rfl, t, L, lib, rfl, hsp, htl, lok, hd9, hrd, Nat.le_trans lr.few (by decide), fun H1 p kvs s1 np hp hla0 => ?_⟩
  have hla := libAt_of hla0 lr.rows
  intro x dx nx ndx xdx
  have sI : Same H (upd (upd H1 dx (.own x)) x (.ins C dx [])) := fun b o e => by
    have e1 := s1 _ _ e
    rw [upd_ne (ne_of_none e1 nx), upd_ne (ne_of_none e1 ndx)]; exact e1
  have nxH : H x = none := Same.free s1 nx
  have px : p ≠ x := fun e => by rw [e, nx] at hp; cases hp
  have pdx : p ≠ dx := fun e => by rw [e, ndx] at hp; cases hp
  have hp2 : (upd (upd H1 dx (.own x)) x (.ins C dx [])) p = some (.dK kvs) := by rw [upd_ne px, upd_ne pdx]; exact hp
  have kI : Keep (fun y => H y = none ∧ y ≠ p) (fun y => y ≠ x) H1 (upd (upd H1 dx (.own x)) x (.ins C dx [])) := fun y kd xs k e => by
    have yx : y ≠ x := fun z => by rw [z, nx] at e; cases e
    have yd : y ≠ dx := fun z => by rw [z, ndx] at e; cases e
    exact ⟨yx, by rw [upd_ne yx, upd_ne yd]; exact e⟩
  refine ⟨x, dx, p, kvs, lib, fun y => y ≠ x, lstK, rfl, upd_same, hp2, hla.to kI, fun c => c rfl, lr, fun H3 rd sl lib2 fr pa pm srt nrd nsl => ⟨rfl, ?_⟩⟩
  obtain ⟨kv2, hr2, hl2⟩ := pa.rows
  exact q H3 x dx rd sl lib2 (fun b o e => fr _ _ (ne_of_none e nxH) (sI _ _ e)) nxH ⟨pa.ins, ⟨kv2, hr2, hl2.to (Keep.mono fun y k _ => Same.free sI k)⟩, pa.spots⟩ pm srt (Same.free sI nrd) (Same.free sI nsl)
end
end Ft
set_option Elab.async false
set_option linter.all false
set_option maxRecDepth 100000
set_option maxHeartbeats 1000000
set_option pp.maxSteps 3000
set_option pp.deepTerms.threshold 8
namespace Ft
open PySem L2
/-- the modules of a library in their order -/
structure LibS (lib : Lib) : Prop where
  pos : 0 < lib.length
  word : ∀ m ∈ lib, isW m.1 = true
  nd : (lib.map (·.1)).Nodup
  srt : PyProof.Rows.sortedS (lib.map (·.1)) = true
/-- the first wrong row of a library -/
def firstM (lib : Lib) : Option (Str × List Int) := lib.findSome? fun m => (firstL 3 false [] m.2).map fun y => (m.1, y)
def XBadP (CP : Addr) (z : Str) (y : List Int) (H : Hp) (E : XK) : Prop := ∀ H1 d u, Same H H1 → PathAt H1 u y → H1 d = none → E (.ref CP) (some d) (upd H1 d (.xd [("path", u), ("module", .str z)]))
section
variable {P : PySem.Program} {w : World} {K : PySem.W.Frag} {mg : Str → Option Value} {base : Heap}
def spCheckModulesB (CP : Addr) : Sp := fun vs H _ E => ∃ (dm : Addr) (kvs : List (Key × V)) (lib : Lib) (ok : Addr → Prop) (kk : Bool → Bool → Prop) (z : Str) (y : List Int), vs = [.ref dm] ∧ H dm = some (.dK kvs) ∧ LibAt ok kk H kvs lib ∧ LibQ lib ∧ LibS lib ∧ firstM lib = some (z, y) ∧ XBadP CP z y H E
theorem ok_CheckModulesB {f CP : Addr} {fd : FuncData} {k : Nat} (F : Fun K "check_modules" "check_modules" sCheckModules f fd) (B : Bl mg) (hk : 8 ≤ k) (gIsWord : Own P w K mg base 1 "is_word" ["thing"] (spIsWord K)) (gFirstWrong : Own P w K mg base 8 "first_wrong" ["rows", "path", "is_within"] (spFirstWrongG 3)) (eP : ErrP P w K mg base CP) : FnOk P w K mg base (L2N.CX P w) (k + 1) f fd ["modules"] (spCheckModulesB CP) := by
  refine okN F scCheckModules (fun vs H Q E h => ?_) (fun cdv A outer s H vs Q E hr h => ?_)
  · obtain ⟨dm, kvs, lib, ok, kk, z, y, rfl, _⟩ := h
    rfl
  obtain ⟨dm, kvs, lib, ok, kk, z0, y0, rfl, hdm, hlib, lq, lr, hfm, q⟩ := h
  refine ⟨_, (pss_cons (ps_if (PW.pt (pw_or (pt_not (pt_val (pe_callB call_isi (by rfl) B.isinstance (by decide +kernel) (pa_cons (pv 0) (pa_cons (pe_bltn (v := .ty "dict") (by rfl) B.dict (by decide +kernel) rfl) pa_nil))))) (pw_or (pt_cmpR op_eq (pe_callB call_lenD (by rfl) B.len (by decide +kernel) (pa_cons (pv 0) pa_nil)) pe_int (nomark _)) (pw_or1 (pt_not (pt_val (pe_callB (cr_all rfl) (by rfl) B.all (by decide +kernel) (pa_cons (pe_lock (pe_lc (own := [("word", 1)]) (g := (gName 1)) (tt := tYes) (by rfl) scCheckModules.nd (pi_keys (pv 0)) (blkOk_by (own := [("word", 1)]) (N := ["modules", "word", "path"]) (sc := defScope sCheckModules) (by decide +kernel)) (fun _ _ _ _ _ => (pg_name (i := 1) scCheckModules.nd rfl (by first | exact Or.inl rfl | exact Or.inr rfl))) (fun _ _ _ _ _ => pts_nil) (fun _ _ _ _ _ => (pe_own gIsWord (hr.mono (by omega)) (by rfl) (pa_cons (pv 1) pa_nil))))) pa_nil)))))))) (pss_one (ps_raiseP rfl eP (hr.mono (by omega)) (L2N.takes_of rfl rfl rfl rfl) (pa_cons pe_non (pa_cons (pe_tup pa_nil) pa_nil)))) pss_nil)
      (pss_one (ps_for (L2.passes_of rfl) rfl (pi_list (pe_callB (call_sortedD rfl) (by rfl) B.sorted (by decide +kernel) (pa_cons (pv 0) pa_nil))) (pg_name (i := 1) scCheckModules.nd rfl (by first | exact Or.inl rfl | exact Or.inr rfl)) (pss_cons (ps_if (pt_not (pt_val (pe_callB call_isiT (by rfl) B.isinstance (by decide +kernel) (pa_cons (pe_dget (hu_of hr) (pv 0) (pv 1) (fun _ _ => rfl)) (pa_cons (pe_tup (pa_cons (pe_bltn (v := .ty "list") (by rfl) B.list (by decide +kernel) rfl) (pa_cons (pe_bltn (v := .ty "tuple") (by rfl) B.tuple (by decide +kernel) rfl) pa_nil))) pa_nil))))) (pss_one (ps_raiseP rfl eP (hr.mono (by omega)) (L2N.takes_of rfl rfl rfl rfl) (pa_cons (pv 1) (pa_cons (pe_tup pa_nil) pa_nil)))) pss_nil)
      (pss_cons (ps_set (i := 2) scCheckModules.nd rfl (by first | exact Or.inl rfl | exact Or.inr rfl) (pe_own gFirstWrong (hr.mono (by omega)) (by rfl) (pa_cons (pe_dget (hu_of hr) (pv 0) (pv 1) (fun _ _ => rfl)) (pa_cons (pe_tup pa_nil) (pa_cons pe_bl pa_nil)))))
      (pss_one (ps_if (pt_cmpR op_notN (pv 2) pe_non (nomark _)) (pss_one (ps_raiseP rfl eP (hr.mono (by omega)) (L2N.takes_of rfl rfl rfl rfl) (pa_cons (pv 1) (pa_cons (pv 2) pa_nil)))) pss_nil))))))), ?_⟩
  have hkeys := libAt_keys hlib
  have hkl := libAt_len hlib
  have few := lq.few
  have keysW : ∀ z ∈ lib.map (·.1), isW z = true := fun z hz => by
    obtain ⟨m, hm, e⟩ := List.mem_map.mp hz
    rw [← e]; exact lr.word m hm
  refine ⟨_, rfl, _, _, _, _, _, rfl, .ty _, .base (.dK hdm), kit_ty (r := true) (by decide +kernel), true, rfl, iteF ?_⟩
  refine ⟨_, rfl, dm, kvs, rfl, hdm, rfl, _, rfl, ?_⟩
  have e0 : decide (V.int ((kvs.length : Nat) : Int) = V.int 0) = false := decide_eq_false (fun e => by
    have := V.int.inj e
    have := lr.pos
    omega)
  rw [e0]
  refine iteF ?_
  -- the keys
  refine ⟨dm, .dK kvs, hdm, trivial, fun od => ?_⟩
  refine ⟨_, rfl, dm, od, rfl, .inl ⟨kvs, upd_same, fun L nL => ?_⟩⟩
  have Ld : L ≠ dm := fun e => by rw [e, upd_same] at nL; cases nL
  refine lc_it walk_keys (fun i H' => Same (upd H dm (.frz od (.dK kvs))) H' ∧ H' L = some (.lst (List.replicate i (.bl true))))
    ⟨Same.new nL, upd_same⟩ (fun i H' _ ⟨sm, _⟩ => sm _ _ upd_same) ?_ ?_
  · rintro i x H1 H2 hi ⟨sm, hL⟩ ⟨rfl, kk', v', hkv, rfl⟩
    refine ⟨rfl, ?_⟩
    obtain ⟨z, hz, rfl⟩ : ∃ z, isW z = true ∧ kk' = Sum.inr z := by
      have : (kvs.map (·.1))[i]? = some kk' := by rw [List.getElem?_map, hkv]; rfl
      rw [hkeys, List.getElem?_map] at this
      obtain ⟨z, h1, h2⟩ := Option.map_eq_some_iff.mp this
      exact ⟨z, keysW z (List.mem_of_getElem? h1), h2.symm⟩
    have hzl := isW_len hz
    refine ⟨_, rfl, .str z, rfl, .inl ⟨z, rfl, smallE (by omega)⟩, fun H3 s3 => ?_⟩
    refine ⟨_, s3 _ _ hL, by rw [List.length_replicate]; exact small (by omega), Same.upN (Same.trans sm s3) nL, ?_⟩
    show (upd H3 L (.lst (List.replicate i (.bl true) ++ [.bl (isW z)]))) L = _
    rw [upd_same, hz, List.replicate_succ']
  · rintro H1 ⟨sm, hL⟩
    have hd1 : H1 dm = some (.frz od (.dK kvs)) := sm _ _ upd_same
    have sm1 : Same H (upd H1 dm (.dK kvs)) := fun b o e => by
      by_cases eb : b = dm
      · rw [eb, hdm] at e
        rw [eb, upd_same]; exact e
      · rw [upd_ne eb]
        exact sm _ _ (by rw [upd_ne eb]; exact e)
    refine ⟨hd1, L, List.replicate kvs.length true, rfl, SqL.of (by rw [upd_ne Ld, hL, List.map_replicate]), ?_⟩
    have ea : (List.replicate kvs.length true).all id = true := by
      rw [List.all_eq_true]
      intro b hb
      rw [List.eq_of_mem_replicate hb]; rfl
    rw [ea]
    refine ⟨true, rfl, iteF ?_⟩
    generalize hG : upd H1 dm _ = G at *
    have hdG : G dm = some (.dK kvs) := by rw [← hG]; exact upd_same
    -- sorted(modules)
    refine ⟨_, rfl, dm, kvs, lib.map (·.1), rfl, .inl hdG, hkeys, by rw [List.length_map]; omega, fun ys l0 hperm hsort nl0 => ?_⟩
    have s2 : Same G (upd G l0 (.lst (ys.map V.str))) := Same.new nl0
    obtain ⟨lib2, e2, p2⟩ := lib_perm hperm lib rfl
    obtain rfl : lib2 = lib := libs_eq p2 (List.Perm.refl _) (by rw [e2]; exact hsort) lr.srt lr.nd
    subst e2
    refine ⟨l0, rfl, ⟨_, SqL.of upd_same⟩, ?_⟩
    refine for_it (walk_list (xs := (lib2.map (·.1)).map V.str)) (fun i σ H' => firstM (lib2.take i) = none ∧ Same (upd G l0 (.lst ((lib2.map (·.1)).map V.str))) H' ∧ ∃ v1 v2, σ = [some (.ref dm), v1, v2])
      ⟨rfl, Same.refl _, _, _, rfl⟩ (fun i σ H' _ ⟨_, sm, _⟩ => SqL.of (sm _ _ upd_same)) ?_ ?_
    · rintro i x σ H2 H3 hi ⟨hno, s3, v1, v2, rfl⟩ ⟨rfl, hx⟩
      obtain ⟨⟨z', rs⟩, hmi, rfl⟩ : ∃ m : Str × List Row, lib2[i]? = some m ∧ x = .str m.1 := by
        rw [List.getElem?_map, List.getElem?_map] at hx
        cases e : lib2[i]? with
        | none => rw [e] at hx; cases hx
        | some m => rw [e] at hx; exact ⟨m, rfl, (Option.some.inj hx).symm⟩
      have hm := List.mem_of_getElem? hmi
      have s4 : Same H H3 := Same.trans sm1 (Same.trans s2 s3)
      have hlib3 : LibAt ok kk H3 kvs lib2 := hlib.to (Keep.fr (Fr.same s4) fun _ k => k)
      obtain ⟨v, hv, hrows⟩ := libAt_val hlib3 lr.nd hm
      have hd3 : H3 dm = some (.dK kvs) := s4 _ _ hdm
      have dg : DGet H3 dm (.str z') (some v) := by rw [← hv]; exact DGet.k (k := Sum.inr z') hd3
      obtain ⟨xs, hat, hall⟩ := id hrows
      have hat' := hat
      obtain ⟨a, kd, rfl, oka, kka, ha⟩ := hat'
      refine ⟨_, rfl, _, rfl, dm, .ref a, rfl, dg, (by show 2 ≤ sizeLine; decide), fun t0 nt => ?_⟩
      refine ⟨_, t0, _, _, _, _, rfl, upd_same, clsV_all ["list", "tuple"], seq_ty (Same.new nt _ _ ha), kitAny_of (seq_lt kd), true, rfl, iteF ?_⟩
      have s5 : Same H3 (upd H3 t0 (.tup [.ty "list", .ty "tuple"])) := Same.new nt
      generalize hG3 : upd H3 t0 _ = G3 at *
      have hd4 : G3 dm = some (.dK kvs) := s5 _ _ hd3
      have dg4 : DGet G3 dm (.str z') (some (.ref a)) := by rw [← hv]; exact DGet.k (k := Sum.inr z') hd4
      refine ⟨_, rfl, _, rfl, dm, .ref a, rfl, dg4, Nat.zero_le _, fun t1 nt1 => ?_⟩
      have s6 : Same H3 (upd G3 t1 (.tup [])) := Same.trans s5 (Same.new nt1)
      refine ⟨.ref a, .ref t1, ok, kk, false, rs, [], rfl, hrows.to (Keep.fr (Fr.same s6) fun _ k => k), fun r hr => (lq.rows _ hm r hr).1, ⟨t1, rfl, upd_same⟩, by simp, fun G4 s7 x hx => ?_⟩
      have s47 := Same.trans s6 s7
      cases hf : firstL 3 false [] rs with
      | none =>
        rw [hf] at hx
        obtain rfl : x = .non := hx
        refine ⟨_, rfl, rfl, _, rfl, iteF ⟨?_, Same.trans s3 s47, _, _, rfl⟩⟩
        rw [List.take_add_one, hmi]
        unfold firstM
        rw [List.findSome?_append]
        have h1 : List.findSome? (fun m : Str × List Row => (firstL 3 false [] m.2).map fun y => (m.1, y)) (lib2.take i) = none := hno
        rw [h1, Option.none_or]
        show List.findSome? _ [(z', rs)] = none
        rw [List.findSome?_cons, hf]
        rfl
      | some y =>
        rw [hf] at hx
        obtain ⟨xa, rfl, hxa⟩ := hx
        have hfm2 : firstM lib2 = some (z', y) := by
          have e : lib2 = lib2.take i ++ (z', rs) :: lib2.drop (i + 1) := by
            have h1 := List.take_append_drop i lib2
            rw [List.drop_eq_getElem_cons (by exact (List.getElem?_eq_some_iff.mp hmi).1)] at h1
            rw [(List.getElem?_eq_some_iff.mp hmi).2] at h1
            exact h1.symm
          rw [e]
          unfold firstM
          rw [List.findSome?_append]
          have h1 : List.findSome? (fun m : Str × List Row => (firstL 3 false [] m.2).map fun y => (m.1, y)) (lib2.take i) = none := hno
          rw [h1, List.findSome?_cons, hf]
          rfl
        rw [hfm2] at hfm
        obtain ⟨rfl, rfl⟩ := Prod.mk.inj (Option.some.inj hfm)
        refine ⟨_, rfl, rfl, _, rfl, iteT ⟨_, rfl, _, rfl, mkE2 fun d nd => q _ d _ (Same.trans s4 s47) ⟨xa, rfl, hxa⟩ nd⟩⟩
    · rintro σ H2 ⟨hno, s3, v1, v2, rfl⟩
      rw [List.take_of_length_le (by rw [List.length_map, List.length_map]; exact Nat.le_refl _)] at hno
      rw [hno] at hfm
      cases hfm
def spProgramInitB (C CP : Addr) : Sp := fun vs H _ E => ∃ (x dx dm : Addr) (kvs : List (Key × V)) (lib : Lib) (ok : Addr → Prop) (kk : Bool → Bool → Prop) (z : Str) (y : List Int), vs = [.ref x, .ref dm] ∧ H x = some (.ins C dx []) ∧ H dm = some (.dK kvs) ∧ LibAt ok kk H kvs lib ∧ LibQ lib ∧ LibS lib ∧ firstM lib = some (z, y) ∧ XBadP CP z y H E
theorem ok_ProgramInitB {f C CP : Addr} {fd : FuncData} {k : Nat} (F : Fun K "__init__" "Program.__init__" sProgramInit f fd) (B : Bl mg) (hk : 9 ≤ k) (gECheckModules : OwnE P w K mg base 9 "check_modules" ["modules"] (fun vs H Q E => spCheckModules vs H Q E ∨ spCheckModulesB CP vs H Q E)) : FnOk P w K mg base (L2N.CX P w) (k + 1) f fd ["self", "modules"] (spProgramInitB C CP) := by
  refine okN F scProgramInit (fun vs H Q E h => ?_) (fun cdv A outer s H vs Q E hr h => ?_)
  · obtain ⟨x, dx, dm, kvs, lib, ok, kk, z, y, rfl, _⟩ := h
    rfl
  obtain ⟨x, dx, dm, kvs, lib, ok, kk, z, y, rfl, hx, hdm, hlib, lq, lr, hfm, q⟩ := h
  refine ⟨_, (pss_cons (ps_expr (pe_ownE gECheckModules (hr.mono (by omega)) (L2N.takes_of rfl rfl rfl rfl) (by rfl) (pa_cons (pv 1) pa_nil)))
      pss_never), ?_⟩
  exact ⟨_, rfl, .inr ⟨dm, kvs, lib, ok, kk, z, y, rfl, hdm, hlib, lq, lr, hfm, q⟩⟩
/-- Program.read of a text of wrong modules -/
def spProgramReadB (C CP : Addr) (d : Nat) : Sp := fun vs H _ E => ∃ (text : Str) (L : List Str) (lib : Lib) (z : Str) (y : List Int), vs = [.ref C, .str text] ∧ LinesIn text L ∧ text.length ≤ 14000000 ∧ LnOk L ∧ d ≤ 900 ∧ RdMods L (d + 1) 0 Str.empty lib ∧ LibQ lib ∧ LibS lib ∧ firstM lib = some (z, y) ∧ XBadP CP z y H E
theorem ok_ProgramReadB {f fI C CP : Addr} {fd fdI : FuncData} {k d : Nat} (F : Fun K "read" "Program.read" sProgramRead f fd) (hk : 4 + 2 * d + 1 ≤ k) (hk2 : 11 ≤ k) (M : Mk K C fI) (FI : FnOk P w K mg base (L2N.CX P w) 10 fI fdI ["self", "modules"] (spProgramInitB C CP)) (bI : Binds K fdI ["self", "modules"] [])
    (gReadModules : Own P w K mg base (4 + 2 * d + 1) "read_modules" ["text"] (spReadModulesD d)) : FnOk P w K mg base (L2N.CX P w) (k + 1) f fd ["cls", "text"] (spProgramReadB C CP d) := by
  refine okN F scProgramRead (fun vs H Q E h => ?_) (fun cdv A outer s H vs Q E hr h => ?_)
  · obtain ⟨t, L, lib, z, y, rfl, _⟩ := h
    rfl
  obtain ⟨t, L, lib, z, y, rfl, hsp, htl, lok, hd9, hrd, lq, lr, hfm, q⟩ := h
  refine ⟨_, (pss_one (ps_ret (pe_makeL (i := 0) M FI (hr.mono (by omega)) bI .nil (L2N.passes_call (L2N.takes_of rfl rfl rfl rfl) (fun _ _ _ _ h => h)) (pa_cons (pe_own gReadModules (hr.mono (by omega)) (by rfl) (pa_cons (pv 1) pa_nil)) pa_nil)))), ?_⟩
  refine ⟨rfl, _, rfl, t, L, lib, rfl, hsp, htl, lok, hd9, hrd, Nat.le_trans lq.few (by decide), fun H1 p kvs s1 np hp hla0 => ?_⟩
  have hla : LibAt (fun x => H x = none ∧ x ≠ p) lstK H1 kvs lib := paired_impM hla0 fun kv m hm ⟨e, xs, h1, h2⟩ => ⟨e, xs, h1, paired_impM h2 fun v r hr2 q => rowAt_atG (lq.rows m hm r hr2).1 q⟩
  intro x dx nx ndx xdx
  have sI : Same H (upd (upd H1 dx (.own x)) x (.ins C dx [])) := fun b o e => by
    have e1 := s1 _ _ e
    rw [upd_ne (ne_of_none e1 nx), upd_ne (ne_of_none e1 ndx)]; exact e1
  have px : p ≠ x := fun e => by rw [e, nx] at hp; cases hp
  have pdx : p ≠ dx := fun e => by rw [e, ndx] at hp; cases hp
  have hp2 : (upd (upd H1 dx (.own x)) x (.ins C dx [])) p = some (.dK kvs) := by rw [upd_ne px, upd_ne pdx]; exact hp
  have kI : Keep (fun y => H y = none ∧ y ≠ p) (fun y => y ≠ x) H1 (upd (upd H1 dx (.own x)) x (.ins C dx [])) := fun y kd xs k e => by
    have yx : y ≠ x := fun z => by rw [z, nx] at e; cases e
    have yd : y ≠ dx := fun z => by rw [z, ndx] at e; cases e
    exact ⟨yx, by rw [upd_ne yx, upd_ne yd]; exact e⟩
  exact ⟨x, dx, p, kvs, lib, fun y => y ≠ x, lstK, z, y, rfl, upd_same, hp2, hla.to kI, lq, lr, hfm, fun H3 d u s3 hu nd => q H3 d u (Same.trans sI s3) hu nd⟩
end
end Ft
set_option Elab.async false
set_option linter.all false
set_option maxRecDepth 100000
set_option maxHeartbeats 1000000
set_option pp.maxSteps 3000
set_option pp.deepTerms.threshold 8
namespace Ft
open PySem L2 TL
section
variable {P : Program} {w : World} {K : PySem.W.Frag} {mg : Str → Option Value} {base : Heap}
abbrev sLIsRow : Stmt := topS 52
theorem scLIsRow : FnScope ["_law_thing", "_law_in_make", "_law_form_here", "_law_sign", "_law_part", "_law_is_right"] ["_law_thing", "_law_in_make"] (defScope sLIsRow) := ⟨rfl, rfl, rfl, by decide +kernel, rfl, by decide +kernel, by decide +kernel⟩
def spLIsRow : Sp := fun vs H Q _ => ∃ (v : V) (wi : Bool) (ok : Addr → Prop) (kk : Bool → Bool → Prop) (d : Nat) (r : Row), vs = [v, .bl wi] ∧ RowAt ok kk H d v r ∧ RowG d r ∧ ∀ H', Same H H' → Q (.bl (!badR wi r)) H'
theorem ok_LIsRow {f : Addr} {fd : FuncData} {k : Nat} (F : Fun K "_law_is_row" "_law_is_row" sLIsRow f fd) (B : Bl mg) (hk : 1 ≤ k) (gLForm : Own P w K mg base 1 "_law_form" ["_law_word_here"] spLForm) (gLIsWord : Own P w K mg base 1 "_law_is_word" ["_law_thing"] (spLIsWord K)) : FnOk P w K mg base CX0 (k + 1) f fd ["_law_thing", "_law_in_make"] spLIsRow := by
  refine F.ok scLIsRow (fun vs H Q E h => ?_) (fun cdv A outer s H vs Q E hr h => ?_)
  · obtain ⟨v, wi, ok, kk, d, r, rfl, _⟩ := h
    rfl
  obtain ⟨v, wi, ok, kk, d, r, rfl, hat, hG, q⟩ := h
  refine ⟨_, (pss_cons (ps_if (PW.pt (pw_or (pt_not (pt_val (pe_callB call_isiT (by rfl) B.isinstance (by decide +kernel) (pa_cons (pv 0) (pa_cons (pe_tup (pa_cons (pe_bltn (v := .ty "list") (by rfl) B.list (by decide +kernel) rfl) (pa_cons (pe_bltn (v := .ty "tuple") (by rfl) B.tuple (by decide +kernel) rfl) pa_nil))) pa_nil))))) (pw_or (pt_cmpR op_eq (pe_callB call_len_seq (by rfl) B.len (by decide +kernel) (pa_cons (pv 0) pa_nil)) pe_int (nomark _)) (pw_or1 (pt_not (pt_val (pe_callB call_isi (by rfl) B.isinstance (by decide +kernel) (pa_cons (pe_ix ix_seq (pv 0) pe_int (fun _ _ => rfl)) (pa_cons (pe_bltn (v := .ty "str") (by rfl) B.str (by decide +kernel) rfl) pa_nil))))))))) (pss_one (ps_ret pe_bl)) pss_nil)
      (pss_cons (ps_set (i := 2) scLIsRow.nd rfl (by first | exact Or.inl rfl | exact Or.inr rfl) (pe_own gLForm (hr.mono (by omega)) (by rfl) (pa_cons (pe_ix ix_seq (pv 0) pe_int (fun _ _ => rfl)) pa_nil)))
      (pss_cut (ps_if (PW.pt (pw_or (pt_cmpR op_isN (pv 2) pe_non (nomark _)) (pw_or (pt_cmpR op_ne (pe_callB call_len_str (by rfl) B.len (by decide +kernel) (pa_cons (pv 2) pa_nil)) (pe_op op_sub (pe_callB call_len_seq (by rfl) B.len (by decide +kernel) (pa_cons (pv 0) pa_nil)) pe_int) (nomark _)) (pw_or1 (PW.pt (pw_and (pt_val (pv 1)) (pw_and1 (pt_cmpR op_in_seq (pe_ix ix_seq (pv 0) pe_int (fun _ _ => rfl)) (pe_tup (pa_cons pe_str (pa_cons pe_str pa_nil))) (by rfl))))))))) (pss_one (ps_ret pe_bl)) pss_nil)
      (pss_cons (ps_for PassesOwn.never rfl (pi_zipS (by rfl) B.zip (pa_cons (pv 2) (pa_cons (pe_slice sl_seq (pv 0) (po_some pe_int) po_none) pa_nil))) (pg_tup (by rfl) (pgs_cons (pg_name (i := 3) scLIsRow.nd rfl (by first | exact Or.inl rfl | exact Or.inr rfl)) (pgs_cons (pg_name (i := 4) scLIsRow.nd rfl (by first | exact Or.inl rfl | exact Or.inr rfl)) pgs_nil))) (pss_cons (ps_set (i := 5) scLIsRow.nd rfl (by first | exact Or.inl rfl | exact Or.inr rfl) (pe_own gLIsWord (hr.mono (by omega)) (by rfl) (pa_cons (pv 4) pa_nil)))
      (pss_cut (ps_if (pt_cmpR op_eq (pv 3) pe_str (nomark _)) (pss_one (ps_set (i := 5) scLIsRow.nd rfl (by first | exact Or.inl rfl | exact Or.inr rfl) (pe_and (pe_callB call_isi (by rfl) B.isinstance (by decide +kernel) (pa_cons (pv 4) (pa_cons (pe_bltn (v := .ty "int") (by rfl) B.int (by decide +kernel) rfl) pa_nil))) (pe_one (pe_not (pe_callB call_isi (by rfl) B.isinstance (by decide +kernel) (pa_cons (pv 4) (pa_cons (pe_bltn (v := .ty "bool") (by rfl) B.bool (by decide +kernel) rfl) pa_nil)))))))) (pss_one (ps_if (pt_cmpR op_eq (pv 3) pe_str (nomark _)) (pss_one (ps_set (i := 5) scLIsRow.nd rfl (by first | exact Or.inl rfl | exact Or.inr rfl) (pe_callB call_isiT (by rfl) B.isinstance (by decide +kernel) (pa_cons (pv 4) (pa_cons (pe_tup (pa_cons (pe_bltn (v := .ty "list") (by rfl) B.list (by decide +kernel) rfl) (pa_cons (pe_bltn (v := .ty "tuple") (by rfl) B.tuple (by decide +kernel) rfl) pa_nil))) pa_nil))))) pss_nil)))
      (pss_one (ps_if (pt_not (pt_val (pv 5))) (pss_one (ps_ret pe_bl)) pss_nil)))))
      (pss_one (ps_ret pe_bl)))))), ?_⟩
  have bg : sizeLine ≥ 16777216 := by decide
  obtain ⟨rest, ⟨a, kd, rfl, oka, kka, ha⟩, hrest⟩ := rowVG_of hG hat
  obtain ⟨hkn, _⟩ := rowG_known (K := K) (wi := wi) hG hrest
  have rf := rowGF_of hG
  have lrest := paired_len hrest
  have few := rf.few
  refine ⟨_, rfl, (by show 2 ≤ sizeLine; decide), fun t0 nt => ?_⟩
  have s1 : Same H (upd H t0 (.tup [.ty "list", .ty "tuple"])) := Same.new nt
  refine ⟨_, t0, _, _, _, _, rfl, upd_same, clsV_all ["list", "tuple"], seq_ty (s1 _ _ ha), kitAny_of (seq_lt kd), true, rfl, iteF ?_⟩
  generalize hG1 : upd H t0 _ = G1 at *
  have ha1 := s1 _ _ ha
  have lw : ∀ p ∈ fieldsT, p.1.length ≤ 8 := by decide +kernel
  have hfs := fieldsOf_some rf.names
  have lrw : (rowWord r).length ≤ 8 := lw _ hfs
  refine ⟨_, rfl, a, _, rfl, sqa_of (sq_of ha1), rfl, _, rfl, ?_⟩
  rw [decide_eq_false (show ¬ V.int (((V.str (rowWord r) :: rest : List V).length : Nat) : Int) = V.int 0 from fun e => by
    have := V.int.inj e
    rw [List.length_cons] at this
    omega)]
  refine iteF ⟨_, rfl, rIx_seq (sq_of ha1) (atI_nat (j := 0) rfl) ⟨_, _, _, _, _, rfl, .ty _, .base (.str (rowWord r)), kit_ty (r := true) (by decide +kernel), true, rfl, iteF ?_⟩⟩
  refine ⟨_, rfl, rIx_seq (sq_of ha1) (atI_nat (j := 0) rfl) ⟨rowWord r, rfl, fun G2 s2 => ?_⟩⟩
  unfold formV
  rw [formOf_eq, rf.names]
  have ha2 := s2 _ _ ha1
  have ls : (sgS ((flds r).map (·.1))).length = (flds r).length := by rw [len_tl, tl_sgS, List.length_map, List.length_map]
  refine ⟨fun σ H' => σ = [some (.ref a), some (.bl wi), some (.str (sgS ((flds r).map (·.1)))), none, none, none] ∧ Same H H' ∧ badR wi r = false, ?_, ?_⟩
  · have len1 : (V.int (((sgS ((flds r).map (·.1))).length : Nat) : Int) = V.int (((V.str (rowWord r) :: rest : List V).length : Int) - 1)) := by
      congr 1
      rw [ls, List.length_cons, lrest]
      omega
    refine ⟨_, rfl, rfl, _, rfl, iteF ⟨_, rfl, sgS ((flds r).map (·.1)), rfl, by omega, _, rfl, a, _, rfl, sqa_of (sq_of ha2), _, _, rfl, rfl, rfl, _, rfl, ?_⟩⟩
    dsimp only
    rw [decide_eq_true len1]
    refine iteF ⟨_, rfl, wi, rfl, ?_⟩
    have s02 := Same.trans s1 s2
    cases wi with
    | false => exact iteF (iteF ⟨rfl, s02, rfl⟩)
    | true =>
      refine iteT ⟨_, rfl, rIx_seq (sq_of ha2) (atI_nat (j := 0) rfl) ⟨(by show 2 ≤ sizeLine; decide), fun t1 nt1 => ?_⟩⟩
      refine ⟨t1, [.str "make", .str "call"], rfl, .inr (SqT.of upd_same), rfl, rfl, _, rfl, ?_⟩
      have ei : inV (.str (rowWord r)) [.str "make", .str "call"] = badR true r := by
        have := inV_iff (z := rowWord r) (ws := ["make", "call"])
        rw [show ([("make" : Str), "call"].map V.str) = [.str "make", .str "call"] from rfl] at this
        rw [this]
        unfold badR
        rw [Bool.true_and, ← Bool.decide_or]
        exact decide_eq_decide.mpr ⟨fun h => by simpa using h, fun h => by simpa using h⟩
      have s03 := Same.trans s02 (Same.new nt1 (o := .tup [.str "make", .str "call"]))
      have qq := q _ s03
      rw [← ei] at qq ⊢
      cases hi : inV (.str (rowWord r)) [.str "make", .str "call"] with
      | true => rw [hi] at qq; exact iteT qq
      | false => exact iteF ⟨rfl, s03, rfl⟩
  rintro σ G3 ⟨rfl, s3, hb⟩
  rw [hb] at q
  have ha3 := s3 _ _ ha
  -- the things behind the word
  refine ⟨_, rfl, _, rfl, 1, rfl, rSl1 ha3 fun p G4 s4 np hp => ?_⟩
  have s04 := Same.trans s3 s4
  have lz : min (sgS ((flds r).map (·.1))).cps.size rest.length = (flds r).length := by
    have : (sgS ((flds r).map (·.1))).cps.size = (flds r).length := ls
    rw [this, lrest, Nat.min_self]
  refine ⟨sgS ((flds r).map (·.1)), p, kd, rest, rfl, sq_of hp, ?_⟩
  refine for_it (walk_zipS lz.symm) (fun i σ H' => Same G4 H' ∧ ∃ v3 v4 v5, σ = [some (.ref a), some (.bl wi), some (.str (sgS ((flds r).map (·.1)))), v3, v4, v5])
    ⟨Same.refl _, _, _, _, rfl⟩ (fun i σ H' _ h => sq_of (h.1 _ _ hp)) ?_ ?_
  · rintro i x σ H5 H6 hi ⟨s5, v3, v4, v5, rfl⟩ ⟨T, c, y, rfl, nT, rfl, hc, hy⟩
    obtain ⟨ff, hff, hx2⟩ := paired_get hrest hy
    have fok := rf.ok ff (List.mem_of_getElem? hff)
    have hcc : c = sgF ff.1 := by
      have h1 : (tl (sgS ((flds r).map (·.1))))[i]? = some c := by rw [Array.getElem?_toList]; exact hc
      rw [tl_sgS, List.getElem?_map, List.getElem?_map, hff] at h1
      exact (Option.some.inj h1).symm
    have hkn0 := hkn y (List.mem_cons_of_mem _ (List.mem_of_getElem? hy))
    have s6 : Same G4 (upd H5 T (.tup [.str ⟨#[c]⟩, y])) := Same.trans s5 (Same.new nT)
    refine ⟨T, _, rfl, SqT.of upd_same, rfl, _, _, rfl, _, _, rfl, rfl, ?_⟩
    generalize hG6 : upd H5 T _ = G6 at *
    have s06 := Same.trans s04 s6
    have hkn6 := hkn0.same s06
    refine ⟨_, rfl, y, rfl, hkn6.1, fun G7 s7 => ?_⟩
    have s47 := Same.trans s6 s7
    have sg : ∀ {a b : Nat}, V.str (⟨#[a]⟩ : Str) = V.str ⟨#[b]⟩ → a = b := fun z => by
      have z := V.str.inj z
      injection z with z; injection z with z; injection z
    have en : ("n" : Str) = ⟨#[110]⟩ := by decide +kernel
    have eb : ("b" : Str) = ⟨#[98]⟩ := by decide +kernel
    refine ⟨fun σ H' => σ = [some (.ref a), some (.bl wi), some (.str (sgS ((flds r).map (·.1)))), some (.str ⟨#[c]⟩), some y, some (.bl true)] ∧ Same G4 H', ?_, ?_⟩
    · obtain ⟨name, fl⟩ := ff
      cases fl with
      | «at» v =>
        obtain rfl : y = v := hx2
        rcases fok with ⟨h1, h2⟩ | ⟨h1, i2, h2⟩
        · obtain rfl : name = "word" := h1
          have ec : c = 119 := hcc
          subst ec
          refine ⟨_, rfl, rfl, _, rfl, ?_⟩
          rw [decide_eq_false (by rw [en]; intro z; have := sg z; omega)]
          refine iteF ⟨_, rfl, rfl, _, rfl, ?_⟩
          rw [decide_eq_false (by rw [eb]; intro z; have := sg z; omega)]
          rw [h2]
          exact iteF ⟨rfl, s47⟩
        · obtain rfl : name = "number" := h1
          have ec : c = 110 := hcc
          subst ec
          subst h2
          refine ⟨_, rfl, rfl, _, rfl, ?_⟩
          rw [decide_eq_true (by rw [en])]
          exact iteT ⟨_, rfl, _, _, _, _, _, rfl, .ty _, .base (.int i2), kit_ty (r := true) (by decide +kernel), true, rfl, iteT ⟨_, rfl, _, _, _, _, _, rfl, .ty _, .base (.int i2), kit_ty (r := false) (by decide +kernel), _, rfl, rfl, s47⟩⟩
      | blk b =>
        obtain rfl : name = "block" := fok.1
        have ec : c = 98 := hcc
        subst ec
        obtain ⟨e, _, ys, ⟨ba, bkd, rfl, _, _, hba⟩, _⟩ := hx2
        refine ⟨_, rfl, rfl, _, rfl, ?_⟩
        rw [decide_eq_false (by rw [en]; intro z; have := sg z; omega)]
        refine iteF ⟨_, rfl, rfl, _, rfl, ?_⟩
        rw [decide_eq_true (by rw [eb])]
        refine iteT ⟨_, rfl, (by show 2 ≤ sizeLine; decide), fun t2 nt2 => ?_⟩
        have s8 : Same G7 (upd G7 t2 (.tup [.ty "list", .ty "tuple"])) := Same.new nt2
        exact ⟨_, t2, _, _, _, _, rfl, upd_same, clsV_all ["list", "tuple"], seq_ty (s8 _ _ (s7 _ _ (s06 _ _ hba))), kitAny_of (seq_lt bkd), rfl, Same.trans s47 s8⟩
    · rintro σ G8 ⟨rfl, s8⟩
      exact ⟨_, rfl, true, rfl, iteF ⟨s8, _, _, _, rfl⟩⟩
  · rintro σ H5 ⟨s5, v3, v4, v5, rfl⟩
    exact q _ (Same.trans s04 s5)
end
end Ft
set_option Elab.async false
set_option linter.all false
set_option maxRecDepth 100000
set_option maxHeartbeats 1000000
set_option pp.maxSteps 3000
set_option pp.deepTerms.threshold 8
namespace Ft
open PySem L2
section
variable {P : Program} {w : World} {K : PySem.W.Frag} {mg : Str → Option Value} {base : Heap}
abbrev sLFirstWrong : Stmt := topS 53
theorem scLFirstWrong : FnScope ["_law_rows", "_law_ahead", "_law_in_make", "_law_k", "_law_row_here", "_law_path", "_law_nth", "_law_block_here", "_law_found"] ["_law_rows", "_law_ahead", "_law_in_make"] (defScope sLFirstWrong) := ⟨rfl, rfl, rfl, by decide +kernel, rfl, by decide +kernel, by decide +kernel⟩
theorem ok_LFirstWrong {f : Addr} {fd : FuncData} {k d : Nat} {spF : Sp} (F : Fun K "_law_first_wrong" "_law_first_wrong" sLFirstWrong f fd) (B : Bl mg) (hk : 2 ≤ k) (gLIsRow : Own P w K mg base 2 "_law_is_row" ["_law_thing", "_law_in_make"] spLIsRow) (gLBlocks : Own P w K mg base 1 "_law_blocks" ["_law_row_here"] spBlocksG)
    (gLFirstWrong : Own P w K mg base k "_law_first_wrong" ["_law_rows", "_law_ahead", "_law_in_make"] spF) (hF : ∀ e, d = e + 1 → spF = spFirstWrongG e) : FnOk P w K mg base CX0 (k + 1) f fd ["_law_rows", "_law_ahead", "_law_in_make"] (spFirstWrongG d) := by
  refine F.ok scLFirstWrong (fun vs H Q E h => ?_) (fun cdv A outer s H vs Q E hr h => ?_)
  · obtain ⟨v, pv, ok, kk, wi, rs, p, rfl, _⟩ := h
    rfl
  obtain ⟨v, pv, ok, kk, wi, rs, p, rfl, ⟨xs, ⟨a, kd, rfl, oka, kka, ha⟩, hxs⟩, hok, ⟨pa, rfl, hpa⟩, hpl, q⟩ := h
  refine ⟨_, (pss_cons (ps_for PassesOwn.never rfl (pi_enumQ (by rfl) B.enumerate (pa_cons (pv 0) pa_nil)) (pg_tup (by rfl) (pgs_cons (pg_name (i := 3) scLFirstWrong.nd rfl (by first | exact Or.inl rfl | exact Or.inr rfl)) (pgs_cons (pg_name (i := 4) scLFirstWrong.nd rfl (by first | exact Or.inl rfl | exact Or.inr rfl)) pgs_nil))) (pss_cons (ps_set (i := 5) scLFirstWrong.nd rfl (by first | exact Or.inl rfl | exact Or.inr rfl) (pe_mid (pe_op op_catA (pv 1) (pe_tup (pa_cons (pv 3) pa_nil)))))
      (pss_cons (ps_if (pt_not (pt_val (pe_own gLIsRow (hr.mono (by omega)) (by rfl) (pa_cons (pv 4) (pa_cons (pv 2) pa_nil))))) (pss_one (ps_ret (pv 5))) pss_nil)
      (pss_one (ps_for PassesOwn.never rfl (pi_enumQ (by rfl) B.enumerate (pa_cons (pe_own gLBlocks (hr.mono (by omega)) (by rfl) (pa_cons (pv 4) pa_nil)) pa_nil)) (pg_tup (by rfl) (pgs_cons (pg_name (i := 6) scLFirstWrong.nd rfl (by first | exact Or.inl rfl | exact Or.inr rfl)) (pgs_cons (pg_name (i := 7) scLFirstWrong.nd rfl (by first | exact Or.inl rfl | exact Or.inr rfl)) pgs_nil))) (pss_cons (ps_set (i := 8) scLFirstWrong.nd rfl (by first | exact Or.inl rfl | exact Or.inr rfl) (pe_own gLFirstWrong (hr.mono (by omega)) (by rfl) (pa_cons (pv 7) (pa_cons (pe_mid (pe_op op_catA (pv 5) (pe_tup (pa_cons (pv 6) pa_nil)))) (pa_cons (pe_mid (pe_or (pv 2) (pe_one (pe_cmpR op_eq (pe_ix ix_seq (pv 4) pe_int (fun _ _ => rfl)) pe_str (nomark _))))) pa_nil)))))
      (pss_one (ps_if (pt_cmpR op_notN (pv 8) pe_non (nomark _)) (pss_one (ps_ret (pv 8))) pss_nil))))))))
      (pss_one (ps_ret pe_non))), ?_⟩
  refine ⟨_, rfl, a, kd, xs, rfl, sq_of ha, ?_⟩
  refine for_it walk_enumQ (fun i σ H' => (rs.zipIdx.take i).findSome? (firstR d wi p) = none ∧ Same H H' ∧ ∃ v3 v4 v5 v6 v7 v8, σ = [some (.ref a), some (.ref pa), some (.bl wi), v3, v4, v5, v6, v7, v8])
    ⟨rfl, Same.refl H, none, none, none, none, none, none, rfl⟩ (fun i σ H' _ ⟨_, sm, _⟩ => sq_of (sm _ _ ha)) ?_ ?_
  · rintro i x σ H1 H2 hi ⟨hno, sm, v3, v4, v5, v6, v7, v8, rfl⟩ ⟨T, x1, x2, rfl, nT, rfl, e1, e2⟩
    have e1' : x1 = .int (i : Nat) := (Option.some.inj e1).symm
    subst e1'
    obtain ⟨r, hr', hrow⟩ := paired_get hxs e2
    have rok := hok r (List.mem_of_getElem? hr')
    have ez : rs.zipIdx[i]? = some (r, i) := by rw [List.getElem?_zipIdx, hr']; simp
    have eR := firstR_eq rok wi p i
    have found : ∀ {y}, firstR d wi p (r, i) = some y → firstL d wi p rs = some y := fun {y} h => by
      unfold firstL
      have e : rs.zipIdx = rs.zipIdx.take i ++ (r, i) :: rs.zipIdx.drop (i + 1) := by
        have h1 := List.take_append_drop i rs.zipIdx
        rw [List.drop_eq_getElem_cons (by exact (List.getElem?_eq_some_iff.mp ez).1)] at h1
        rw [(List.getElem?_eq_some_iff.mp ez).2] at h1
        exact h1.symm
      rw [e, List.findSome?_append, hno, List.findSome?_cons, h]
      rfl
    have go : firstR d wi p (r, i) = none → (rs.zipIdx.take (i + 1)).findSome? (firstR d wi p) = none := fun h => by
      rw [List.take_add_one, ez, List.findSome?_append, hno]
      show List.findSome? (firstR d wi p) [(r, i)] = none
      rw [List.findSome?_cons, h]
      rfl
    have s2 : Same H (upd H1 T (.tup [.int (i : Nat), x2])) := Same.trans sm (Same.new nT)
    refine ⟨T, _, rfl, SqT.of upd_same, rfl, _, _, rfl, _, _, rfl, rfl, ?_⟩
    generalize hG : upd H1 T _ = G at *
    -- here = path + (k,)
    refine ⟨fun v H' => ∃ b, v = .ref b ∧ H' b = some (.tup ((p ++ [(i : Int)]).map V.int)) ∧ Same G H', ?_, ?_⟩
    · refine ⟨_, rfl, _, rfl, (by show 1 ≤ sizeLine; decide), fun t1 nt1 => ?_⟩
      refine ⟨pa, t1, p.map V.int, [.int (i : Nat)], rfl, rfl, SqT.of (Same.new nt1 _ _ (s2 _ _ hpa)), SqT.of upd_same, smallE (by rw [List.length_map]; simp; omega), fun e => ?_, fun _ e => (nomatch e), fun _ _ t2 nt2 => ?_⟩
      · have ep : p = [] := List.map_eq_nil_iff.mp e
        subst ep
        exact ⟨t1, rfl, upd_same, Same.new nt1⟩
      · exact ⟨t2, rfl, by rw [upd_same, List.map_append]; rfl, Same.trans (Same.new nt1) (Same.new nt2)⟩
    rintro hv G1 ⟨hb, rfl, hhb, s3⟩
    have s4 : Same H G1 := Same.trans s2 s3
    have hrow1 : RowAt ok kk G1 d x2 r := hrow.to (Keep.fr (Fr.same s4) fun _ k => k)
    obtain ⟨rest, ⟨ra, rkd, rfl, roka, rkka, hra⟩, hrest⟩ := rowVG_of rok hrow1
    have rf := rowGF_of rok
    have few := rf.few
    have lr : rest.length = (flds r).length := paired_len hrest
    obtain ⟨hkn, hrb⟩ := rowG_known (K := K) (wi := wi) rok hrest
    refine ⟨_, rfl, _, rfl, .ref ra, wi, ok, kk, d, r, rfl, hrow1, rok, fun G2 s5 => ?_⟩
    refine ⟨_, rfl, ?_⟩
    have s6 : Same H G2 := Same.trans s4 s5
    cases hbad : badR wi r with
    | true =>
      rw [if_pos hbad] at eR
      have := found eR
      rw [this] at q
      exact iteT ⟨_, rfl, q _ s6 _ ⟨hb, rfl, s5 _ _ hhb⟩⟩
    | false =>
    rw [if_neg (by rw [hbad]; exact Bool.false_ne_true)] at eR
    refine iteF ?_
    have hrow2 : RowAt ok kk G2 d (.ref ra) r := hrow1.to (Keep.fr (Fr.same s5) fun _ k => k)
    refine ⟨_, rfl, .ref ra, ok, kk, d, r, rfl, rok, hrow2, fun G3 bl ys s7 nb hbl hys => ?_⟩
    have lb : ys.length ≤ 3 := by
      rw [paired_len hys, rf.blk]
      exact Nat.le_trans (List.length_filterMap_le _ _) few
    refine ⟨bl, true, ys, rfl, sq_of hbl, ?_⟩
    refine for_it walk_enumQ (fun j σ H' => ((blocks r).zipIdx.take j).findSome? (firstB d (wi || decide (rowWord r = "make")) p i) = none ∧ Same G3 H' ∧ ∃ v6 v7 v8, σ = [some (.ref a), some (.ref pa), some (.bl wi), some (.int (i : Nat)), some (.ref ra), some (.ref hb), v6, v7, v8])
      ⟨rfl, Same.refl _, v6, v7, v8, rfl⟩ (fun j σ H' _ ⟨_, sm, _⟩ => sq_of (kd := true) (sm _ _ hbl)) ?_ ?_
    · rintro j y σ H3 H4 hj ⟨hnb, sm4, w6, w7, w8, rfl⟩ ⟨T2, y1, y2, rfl, nT2, rfl, f1, f2⟩
      have f1' : y1 = .int (j : Nat) := (Option.some.inj f1).symm
      subst f1'
      obtain ⟨b, hb', hblk⟩ := paired_get hys f2
      obtain ⟨e, rfl, hrows⟩ := hblk
      have eF := hF e rfl
      subst eF
      have s8 : Same G3 (upd H3 T2 (.tup [.int (j : Nat), y2])) := Same.trans sm4 (Same.new nT2)
      refine ⟨T2, _, rfl, SqT.of upd_same, rfl, _, _, rfl, _, _, rfl, rfl, ?_⟩
      generalize hG4 : upd H3 T2 _ = G4 at *
      have s9 : Same G1 G4 := Same.trans s5 (Same.trans s7 s8)
      have hhb4 : G4 hb = some (.tup ((p ++ [(i : Int)]).map V.int)) := s9 _ _ hhb
      obtain ⟨e', he', bok⟩ := blkG_ok rok (List.mem_of_getElem? hb')
      obtain rfl : e = e' := Nat.succ.inj he'
      have ezb : (blocks r).zipIdx[j]? = some (b, j) := by rw [List.getElem?_zipIdx, hb']; simp
      refine ⟨_, rfl, fun v H' => ∃ c, v = .ref c ∧ H' c = some (.tup ((p ++ [(i : Int)] ++ [(j : Int)]).map V.int)) ∧ Same G4 H', ?_, ?_⟩
      · refine ⟨_, rfl, _, rfl, (by show 1 ≤ sizeLine; decide), fun t1 nt1 => ?_⟩
        refine ⟨hb, t1, _, [.int (j : Nat)], rfl, rfl, SqT.of (Same.new nt1 _ _ hhb4), SqT.of upd_same, smallE (by rw [List.length_map]; simp; omega), fun e => (by simp at e), fun _ e => (nomatch e), fun _ _ t2 nt2 => ?_⟩
        exact ⟨t2, rfl, by rw [upd_same, List.map_append (l₁ := p ++ [(i : Int)])]; rfl, Same.trans (Same.new nt1) (Same.new nt2)⟩
      rintro cv G5 ⟨c, rfl, hc, s10⟩
      have s11 : Same G2 G5 := Same.trans s7 (Same.trans s8 s10)
      refine ⟨fun v H' => v = .bl (wi || decide (rowWord r = "make")) ∧ G5 = H', ?_, ?_⟩
      · refine ⟨_, rfl, wi, rfl, ?_⟩
        cases wi with
        | true => exact iteT ⟨rfl, rfl⟩
        | false =>
          have hra5 := Same.trans s5 s11 _ _ hra
          refine iteF ⟨_, rfl, rIx_seq (sq_of hra5) (atI_nat (j := 0) rfl) ⟨rfl, ?_, rfl⟩⟩
          rw [Bool.false_or]
          have : (V.str (rowWord r) = V.str "make") ↔ (rowWord r = "make") := ⟨fun e => V.str.inj e, fun e => by rw [e]⟩
          rw [decide_eq_decide.mpr this]
      rintro _ _ ⟨rfl, rfl⟩
      have hrows5 : RowsAt ok kk G5 e y2 b := hrows.to (Keep.fr (Fr.same s11) fun _ k => k)
      have eB : firstB (e + 1) (wi || decide (rowWord r = "make")) p i (b, j) = firstL e (wi || decide (rowWord r = "make")) (p ++ [(i : Int)] ++ [(j : Int)]) b := by
        show firstL e _ (p ++ [(i : Int), (j : Int)]) b = _
        rw [List.append_assoc]
        rfl
      refine ⟨y2, .ref c, ok, kk, _, b, p ++ [(i : Int)] ++ [(j : Int)], rfl, hrows5, bok, ⟨c, rfl, hc⟩, by simp; omega, fun G6 s12 x hx => ?_⟩
      have s16 := Same.trans s8 (Same.trans s10 s12)
      rw [← eB] at hx
      cases hf : firstB (e + 1) (wi || decide (rowWord r = "make")) p i (b, j) with
      | some y =>
        rw [hf] at hx
        obtain ⟨xa, rfl, hxa⟩ := hx
        have : (blocks r).zipIdx.findSome? (firstB (e + 1) (wi || decide (rowWord r = "make")) p i) = some y := by
          have e : (blocks r).zipIdx = (blocks r).zipIdx.take j ++ (b, j) :: (blocks r).zipIdx.drop (j + 1) := by
            have h1 := List.take_append_drop j (blocks r).zipIdx
            rw [List.drop_eq_getElem_cons (by exact (List.getElem?_eq_some_iff.mp ezb).1)] at h1
            rw [(List.getElem?_eq_some_iff.mp ezb).2] at h1
            exact h1.symm
          rw [e, List.findSome?_append, hnb, List.findSome?_cons, hf]
          rfl
        have h2 := found (eR.trans this)
        rw [h2] at q
        exact ⟨_, rfl, rfl, _, rfl, iteT ⟨_, rfl, q _ (Same.trans s6 (Same.trans s7 s16)) _ ⟨xa, rfl, hxa⟩⟩⟩
      | none =>
        rw [hf] at hx
        obtain rfl : x = .non := hx
        refine ⟨_, rfl, rfl, _, rfl, iteF ⟨?_, s16, _, _, _, rfl⟩⟩
        rw [List.take_add_one, ezb, List.findSome?_append, hnb]
        show List.findSome? _ [(b, j)] = none
        rw [List.findSome?_cons, hf]
        rfl
    · rintro σ H3 ⟨hnb, sm4, w6, w7, w8, rfl⟩
      rw [List.take_of_length_le (by rw [List.length_zipIdx, paired_len hys]; exact Nat.le_refl _)] at hnb
      exact ⟨go (eR.trans hnb), Same.trans s6 (Same.trans s7 sm4), _, _, _, _, _, _, rfl⟩
  · rintro σ H1 ⟨hno, sm, v3, v4, v5, v6, v7, v8, rfl⟩
    rw [List.take_of_length_le (by rw [List.length_zipIdx, paired_len hxs]; exact Nat.le_refl _)] at hno
    have hno : firstL d wi p rs = none := hno
    rw [hno] at q
    exact q _ sm _ rfl
theorem lfirstWrong_ok {f : Addr} {fd : FuncData} (F : Fun K "_law_first_wrong" "_law_first_wrong" sLFirstWrong f fd) (B : Bl mg) (m : mg "_law_first_wrong" = some (.ref f)) (b : Binds K fd ["_law_rows", "_law_ahead", "_law_in_make"] []) (gLIsRow : Own P w K mg base 2 "_law_is_row" ["_law_thing", "_law_in_make"] spLIsRow) (gLBlocks : Own P w K mg base 1 "_law_blocks" ["_law_row_here"] spBlocksG) :
    ∀ d : Nat, Own P w K mg base (3 + d) "_law_first_wrong" ["_law_rows", "_law_ahead", "_law_in_make"] (spFirstWrongG d)
  | 0 => own_mk F m b (ok_LFirstWrong (k := 2) F B (by omega) gLIsRow gLBlocks (own_mk F m b fn_false) (fun e h => absurd h (by omega)))
  | d + 1 => own_mk F m b (ok_LFirstWrong (k := 3 + d) F B (by omega) gLIsRow gLBlocks (lfirstWrong_ok F B m b gLIsRow gLBlocks d) (fun e h => by
      have : d = e := by omega
      rw [this]))
end
end Ft
set_option Elab.async false
set_option linter.all false
set_option maxRecDepth 100000
set_option maxHeartbeats 4000000
namespace Ft
open PySem L2
section
variable {P : PySem.Program} {w : World} {K : PySem.W.Frag} {mg : Str → Option Value} {base : Heap}
abbrev sProgramModules : Stmt := inClass (topS 28) 3
theorem scProgramModules : FnScope ["self"] ["self"] (defScope sProgramModules) := ⟨rfl, rfl, rfl, by decide +kernel, rfl, by decide +kernel, by decide +kernel⟩
def spProgramModules (C : Addr) : Sp := fun vs H Q _ => ∃ (x dx rd : Addr) (sv : V) (kvs : List (Key × V)), vs = [.ref x] ∧ H x = some (.ins C dx [("rows_of", .ref rd), ("spots", sv)]) ∧ H rd = some (.dK kvs) ∧
  ∀ l, H l = none → Q (.ref l) (upd H l (.lst (kvs.map fun kv => kV kv.1)))
theorem ok_ProgramModules {f C : Addr} {fd : FuncData} {k : Nat} (F : Fun K "modules" "Program.modules" sProgramModules f fd) (B : Bl mg) (PC : PCls K mg C) : FnOk P w K mg base CX0 (k + 1) f fd ["self"] (spProgramModules C) := by
  refine F.ok scProgramModules (fun vs H Q E h => ?_) (fun cdv A outer s H vs Q E hr h => ?_)
  · obtain ⟨x, dx, rd, sv, kvs, rfl, _⟩ := h
    rfl
  obtain ⟨x, dx, rd, sv, kvs, rfl, hx, hr0, q⟩ := h
  refine ⟨_, (pss_one (ps_ret (pe_callTy (call_listD rfl) (by rfl) B.list (by decide +kernel) (pa_cons (pe_fld (pv 0) rfl) pa_nil)))), ?_⟩
  exact ⟨_, rfl, x, C, dx, _, _, rfl, hx, PC.cl, PC.nR, lk_rows _ _, rd, kvs, rfl, .inl hr0, q⟩
end
end Ft
set_option Elab.async false
set_option linter.all false
set_option maxRecDepth 100000
set_option maxHeartbeats 4000000
set_option Elab.async false
set_option linter.all false
set_option maxRecDepth 100000
set_option maxHeartbeats 4000000
namespace Ft
open PySem L2
theorem atom_bilt {x : V} (h : isAtom x = true) (hb : isIntB x = false) : kitAnyB (atomT x) ["bool", "int", "list", "tuple"] = some false := by
  cases x with
  | non => decide +kernel
  | str z => show kitAnyB "str" ["bool", "int", "list", "tuple"] = some false; decide +kernel
  | bl b => cases hb
  | int i => cases hb
  | _ => cases h
section
variable {P : Program} {w : World} {K : PySem.W.Frag} {mg : Str → Option Value} {base : Heap}
abbrev sLSame : Stmt := topS 33
theorem scLSame : FnScope ["_law_found", "_law_due_here", "_law_one", "_law_two"] ["_law_found", "_law_due_here"] (defScope sLSame) := ⟨rfl, rfl, rfl, by decide +kernel, rfl, by decide +kernel, by decide +kernel⟩
def spLSame (m : Nat) : Sp := fun vs H Q _ => ∃ (u v : V) (t : DT), vs = [u, v] ∧ DtAt H m u t ∧ DtAt H m v t ∧ ∀ H', Same H H' → Q (.bl true) H'
theorem ok_LSame {f : Addr} {fd : FuncData} {k m : Nat} {spF : Sp} (F : Fun K "_law_same" "_law_same" sLSame f fd) (B : Bl mg) (gLSame : Own P w K mg base k "_law_same" ["_law_found", "_law_due_here"] spF) (hF : ∀ e, m = e + 1 → spF = spLSame e) : FnOk P w K mg base CX0 (k + 1) f fd ["_law_found", "_law_due_here"] (spLSame m) := by
  refine F.ok scLSame (fun vs H Q E h => ?_) (fun cdv A outer s H vs Q E hr h => ?_)
  · obtain ⟨u, v, t, rfl, _⟩ := h
    rfl
  obtain ⟨u, v, t, rfl, hu, hv, q⟩ := h
  refine ⟨_, (pss_cons (ps_if (pt_val (pe_callB call_isiT (by rfl) B.isinstance (by decide +kernel) (pa_cons (pv 1) (pa_cons (pe_tup (pa_cons (pe_bltn (v := .ty "list") (by rfl) B.list (by decide +kernel) rfl) (pa_cons (pe_bltn (v := .ty "tuple") (by rfl) B.tuple (by decide +kernel) rfl) pa_nil))) pa_nil)))) (pss_cons (ps_if (PW.pt (pw_or (pt_cmpR op_ne (pe_callB call_isi (by rfl) B.isinstance (by decide +kernel) (pa_cons (pv 0) (pa_cons (pe_bltn (v := .ty "list") (by rfl) B.list (by decide +kernel) rfl) pa_nil))) (pe_callB call_isi (by rfl) B.isinstance (by decide +kernel) (pa_cons (pv 1) (pa_cons (pe_bltn (v := .ty "list") (by rfl) B.list (by decide +kernel) rfl) pa_nil))) (nomark _)) (pw_or1 (pt_cmpR op_ne (pe_callB call_isi (by rfl) B.isinstance (by decide +kernel) (pa_cons (pv 0) (pa_cons (pe_bltn (v := .ty "tuple") (by rfl) B.tuple (by decide +kernel) rfl) pa_nil))) (pe_callB call_isi (by rfl) B.isinstance (by decide +kernel) (pa_cons (pv 1) (pa_cons (pe_bltn (v := .ty "tuple") (by rfl) B.tuple (by decide +kernel) rfl) pa_nil))) (nomark _))))) (pss_one (ps_ret pe_bl)) pss_nil)
      (pss_one (ps_ret (pe_and (pe_cmpR op_eq (pe_callB call_len_seq (by rfl) B.len (by decide +kernel) (pa_cons (pv 0) pa_nil)) (pe_callB call_len_seq (by rfl) B.len (by decide +kernel) (pa_cons (pv 1) pa_nil)) (nomark _)) (pe_one (pe_callB (cr_all rfl) (by rfl) B.all (by decide +kernel) (pa_cons (pe_lc (own := [("_law_one", 2), ("_law_two", 3)]) (g := (gTup _ 2 (gCons (gName 2) (gCons (gName 3) gNil)))) (tt := tYes) (by rfl) scLSame.nd (pi_zipQ (by rfl) B.zip (pa_cons (pv 0) (pa_cons (pv 1) pa_nil))) (blkOk_by (own := [("_law_one", 2), ("_law_two", 3)]) (N := ["_law_found", "_law_due_here", "_law_one", "_law_two"]) (sc := defScope sLSame) (by decide +kernel)) (fun _ _ _ _ _ => (pg_tup (by rfl) (pgs_cons (pg_name (i := 2) scLSame.nd rfl (by first | exact Or.inl rfl | exact Or.inr rfl)) (pgs_cons (pg_name (i := 3) scLSame.nd rfl (by first | exact Or.inl rfl | exact Or.inr rfl)) pgs_nil)))) (fun _ _ _ _ _ => pts_nil) (fun _ _ _ _ _ => (pe_own gLSame (hr.mono (by omega)) (by rfl) (pa_cons (pv 2) (pa_cons (pv 3) pa_nil))))) pa_nil))))))) pss_nil)
      (pss_cons (ps_if (pt_val (pe_callB call_isiT (by rfl) B.isinstance (by decide +kernel) (pa_cons (pv 1) (pa_cons (pe_tup (pa_cons (pe_bltn (v := .ty "bool") (by rfl) B.bool (by decide +kernel) rfl) (pa_cons (pe_bltn (v := .ty "int") (by rfl) B.int (by decide +kernel) rfl) pa_nil))) pa_nil)))) (pss_one (ps_ret (pe_and (pe_callB call_isi (by rfl) B.isinstance (by decide +kernel) (pa_cons (pv 0) (pa_cons (pe_bltn (v := .ty "int") (by rfl) B.int (by decide +kernel) rfl) pa_nil))) (pe_and (pe_cmpR op_eq (pe_callB call_isi (by rfl) B.isinstance (by decide +kernel) (pa_cons (pv 0) (pa_cons (pe_bltn (v := .ty "bool") (by rfl) B.bool (by decide +kernel) rfl) pa_nil))) (pe_callB call_isi (by rfl) B.isinstance (by decide +kernel) (pa_cons (pv 1) (pa_cons (pe_bltn (v := .ty "bool") (by rfl) B.bool (by decide +kernel) rfl) pa_nil))) (nomark _)) (pe_one (pe_cmpR op_eq (pv 0) (pv 1) (nomark _))))))) pss_nil)
      (pss_one (ps_ret (pe_and (pe_not (pe_callB call_isiT (by rfl) B.isinstance (by decide +kernel) (pa_cons (pv 0) (pa_cons (pe_tup (pa_cons (pe_bltn (v := .ty "bool") (by rfl) B.bool (by decide +kernel) rfl) (pa_cons (pe_bltn (v := .ty "list") (by rfl) B.list (by decide +kernel) rfl) (pa_cons (pe_bltn (v := .ty "tuple") (by rfl) B.tuple (by decide +kernel) rfl) pa_nil)))) pa_nil)))) (pe_one (pe_cmpR op_eq (pv 0) (pv 1) (nomark _)))))))), ?_⟩
  refine ⟨_, rfl, (by show 2 ≤ sizeLine; decide), fun t0 nt => ?_⟩
  have s0 : Same H (upd H t0 (.tup [.ty "list", .ty "tuple"])) := Same.new nt
  cases t with
  | sq kd ts =>
    cases m with
    | zero => exact hu.elim
    | succ m =>
      have eF := hF m rfl
      subst eF
      obtain ⟨a, xs, rfl, ha, hl, hxs⟩ := hu
      obtain ⟨b, ys, rfl, hb, _, hys⟩ := hv
      have ha0 := s0 _ _ ha
      have hb0 := s0 _ _ hb
      refine ⟨_, t0, _, _, _, _, rfl, upd_same, clsV_all ["list", "tuple"], seq_ty hb0, kitAny_of (seq_lt kd), true, rfl, iteT ?_⟩
      have lx : xs.length = ts.length := by
        have : ∀ {xs : List V} {ts : List DT}, Paired (DtAt H m) xs ts → xs.length = ts.length := fun h => by
          induction h with
          | nil => rfl
          | cons _ _ ih => rw [List.length_cons, List.length_cons, ih]
        exact this hxs
      have ly : ys.length = ts.length := by
        have : ∀ {xs : List V} {ts : List DT}, Paired (DtAt H m) xs ts → xs.length = ts.length := fun h => by
          induction h with
          | nil => rfl
          | cons _ _ ih => rw [List.length_cons, List.length_cons, ih]
        exact this hys
      generalize hG : upd H t0 _ = G at *
      refine ⟨_, rfl, _, _, _, _, _, rfl, .ty _, seq_ty ha0, kit_ty (seqT_list kd), _, rfl, _, _, _, _, _, rfl, .ty _, seq_ty hb0, kit_ty (seqT_list kd), rfl, _, rfl, ?_⟩
      rw [decide_eq_true (rfl : V.bl kd = V.bl kd)]
      refine iteF ⟨_, rfl, _, _, _, _, _, rfl, .ty _, seq_ty ha0, kit_ty (seqT_tuple kd), _, rfl, _, _, _, _, _, rfl, .ty _, seq_ty hb0, kit_ty (seqT_tuple kd), rfl, _, rfl, ?_⟩
      rw [decide_eq_true (rfl : V.bl (!kd) = V.bl (!kd))]
      refine iteF ?_
      refine ⟨_, rfl, a, xs, rfl, sqa_of (sq_of ha0), _, rfl, b, ys, rfl, sqa_of (sq_of hb0), rfl, _, rfl, ?_⟩
      have el : decide (V.int ((xs.length : Nat) : Int) = V.int ((ys.length : Nat) : Int)) = true := decide_eq_true (by rw [lx, ly])
      rw [el]
      refine iteT ⟨_, rfl, _, rfl, a, b, kd, kd, xs, ys, rfl, sq_of ha0, sq_of hb0, fun L nL => ?_⟩
      refine lc_it (walk_zipQ (n := ts.length) (by omega)) (fun i H' => Same G H' ∧ H' L = some (.lst (List.replicate i (.bl true))))
        ⟨Same.new nL, upd_same⟩ (fun i H' _ ⟨sm, _⟩ => ⟨sq_of (sm _ _ ha0), sq_of (sm _ _ hb0)⟩) ?_ ?_
      · rintro i x H1 H2 hi ⟨sm, hL⟩ ⟨T, x1, x2, rfl, nT, rfl, e1, e2⟩
        have g1 : ∃ t', ts[i]? = some t' ∧ DtAt H m x1 t' := by
          have : ∀ {xs : List V} {ts : List DT} {i : Nat} {x : V}, Paired (DtAt H m) xs ts → xs[i]? = some x → ∃ t', ts[i]? = some t' ∧ DtAt H m x t' := fun {xs ts i x} h => by
            induction h generalizing i with
            | nil => intro e; simp at e
            | cons r _ ih =>
              intro e
              cases i with
              | zero =>
                have z := Option.some.inj e
                subst z
                exact ⟨_, rfl, r⟩
              | succ i => exact ih (i := i) e
          exact this hxs e1
        have g2 : ∃ t', ts[i]? = some t' ∧ DtAt H m x2 t' := by
          have : ∀ {xs : List V} {ts : List DT} {i : Nat} {x : V}, Paired (DtAt H m) xs ts → xs[i]? = some x → ∃ t', ts[i]? = some t' ∧ DtAt H m x t' := fun {xs ts i x} h => by
            induction h generalizing i with
            | nil => intro e; simp at e
            | cons r _ ih =>
              intro e
              cases i with
              | zero =>
                have z := Option.some.inj e
                subst z
                exact ⟨_, rfl, r⟩
              | succ i => exact ih (i := i) e
          exact this hys e2
        obtain ⟨t1, ht1, d1⟩ := g1
        obtain ⟨t2, ht2, d2⟩ := g2
        have et : t1 = t2 := Option.some.inj (ht1.symm.trans ht2)
        subst et
        have s5 : Same H (upd H1 T (.tup [x1, x2])) := Same.trans s0 (Same.trans sm (Same.new nT))
        have nLT : L ≠ T := ne_of_none hL nT
        refine ⟨T, _, rfl, SqT.of upd_same, rfl, _, _, rfl, _, _, rfl, rfl, rfl, ?_⟩
        refine ⟨_, rfl, _, rfl, x1, x2, t1, rfl, d1.to (fun a kd xs e => s5 _ _ e), d2.to (fun a kd xs e => s5 _ _ e), fun H3 s6 => ?_⟩
        refine ⟨_, s6 _ _ (by rw [upd_ne nLT]; exact hL), by rw [List.length_replicate]; exact big (by omega), Same.upN (Same.trans sm (Same.trans (Same.new nT) s6)) nL, ?_⟩
        rw [upd_same, List.replicate_succ']
      · rintro H1 ⟨sm, hL⟩
        refine ⟨L, List.replicate ts.length true, rfl, SqL.of (by rw [hL, List.map_replicate]), ?_⟩
        have ea : (List.replicate ts.length true).all id = true := by
          rw [List.all_eq_true]
          intro b hb
          rw [List.eq_of_mem_replicate hb]; rfl
        rw [ea]
        exact q _ (Same.trans s0 sm)
  | «at» x =>
    obtain ⟨rfl, hx⟩ : u = x ∧ isAtom x = true := by cases m <;> exact hu
    obtain ⟨rfl, _⟩ : v = u ∧ isAtom u = true := by cases m <;> exact hv
    refine ⟨_, t0, _, _, _, _, rfl, upd_same, clsV_all ["list", "tuple"], atom_ty hx, kitAny_of (atom_lt hx), false, rfl, iteF ?_⟩
    generalize hG : upd H t0 _ = G at *
    refine ⟨_, rfl, (by show 2 ≤ sizeLine; decide), fun t1 nt1 => ?_⟩
    have s1 : Same H (upd G t1 (.tup [.ty "bool", .ty "int"])) := Same.trans s0 (Same.new nt1)
    refine ⟨_, t1, _, _, _, _, rfl, upd_same, clsV_all ["bool", "int"], atom_ty hx, kitAny_of (atom_bi hx), _, rfl, ?_⟩
    generalize hG1 : upd G t1 _ = G1 at *
    have sc : scal v v = true := by cases v <;> first | rfl | cases hx
    cases hib : isIntB v with
    | true =>
      refine iteT ⟨_, rfl, _, _, _, _, _, rfl, .ty _, atom_ty hx, kit_ty (atom_int hx), _, rfl, ?_⟩
      rw [hib]
      refine iteT ⟨_, rfl, _, _, _, _, _, rfl, .ty _, atom_ty hx, kit_ty (atom_bool hx), _, rfl, _, _, _, _, _, rfl, .ty _, atom_ty hx, kit_ty (atom_bool hx), rfl, _, rfl, ?_⟩
      rw [decide_eq_true (rfl : V.bl (isBl v) = V.bl (isBl v))]
      refine iteT ⟨_, rfl, _, rfl, sc, ?_⟩
      rw [decide_eq_true (rfl : v = v)]
      exact q _ s1
    | false =>
      first
      | (refine iteF ⟨_, rfl, (by show 3 ≤ sizeLine; decide), fun t2 nt2 => ?_⟩
         have s2 : Same H (upd G1 t2 (.tup [.ty "bool", .ty "list", .ty "tuple"])) := Same.trans s1 (Same.new nt2)
         refine ⟨_, t2, _, _, _, _, rfl, upd_same, clsV_all ["bool", "list", "tuple"], atom_ty hx, kitAny_of (atom_blt hx hib), false, rfl, true, rfl, iteT ⟨_, rfl, _, rfl, sc, ?_⟩⟩
         rw [decide_eq_true (rfl : v = v)]
         exact q _ s2)
      | (refine iteF ⟨_, rfl, (by show 4 ≤ sizeLine; decide), fun t2 nt2 => ?_⟩
         have s2 : Same H (upd G1 t2 (.tup [.ty "bool", .ty "int", .ty "list", .ty "tuple"])) := Same.trans s1 (Same.new nt2)
         refine ⟨_, t2, _, _, _, _, rfl, upd_same, clsV_all ["bool", "int", "list", "tuple"], atom_ty hx, kitAny_of (atom_bilt hx hib), false, rfl, true, rfl, iteT ⟨_, rfl, _, rfl, sc, ?_⟩⟩
         rw [decide_eq_true (rfl : v = v)]
         exact q _ s2)
theorem lsame_ok {f : Addr} {fd : FuncData} (F : Fun K "_law_same" "_law_same" sLSame f fd) (B : Bl mg) (m : mg "_law_same" = some (.ref f)) (b : Binds K fd ["_law_found", "_law_due_here"] []) : ∀ d : Nat, Own P w K mg base (1 + d) "_law_same" ["_law_found", "_law_due_here"] (spLSame d)
  | 0 => own_mk F m b (ok_LSame (k := 0) F B (own_mk F m b fn_false) (fun e h => absurd h (by omega)))
  | d + 1 => own_mk F m b (ok_LSame (k := 1 + d) F B (lsame_ok F B m b d) (fun e h => by
      have : d = e := by omega
      rw [this]))
end
end Ft
set_option Elab.async false
set_option linter.all false
set_option maxRecDepth 100000
set_option maxHeartbeats 1000000
set_option pp.maxSteps 3000
set_option pp.deepTerms.threshold 8
namespace Ft
open PySem L2
/-- rows as told -/
def rowsT (rs : List Row) : DT := .sq true (rs.map (rowDT false false 3))
theorem rows_dt {ok : Addr → Prop} {H : Hp} {l : Addr} {xs : List V} {rs : List Row} (h : H l = some (.lst xs)) (hl : rs.length ≤ 24) (ho : ∀ r ∈ rs, RowOk 3 false r) (hx : Paired (RowAt ok tupK H 3) xs rs) : DtAt H 8 (.ref l) (rowsT rs) :=
  ⟨l, xs, rfl, h, by rw [List.length_map]; omega, paired_mapR (paired_impM hx fun x r hr q => row_dt (fun s b h => by cases s <;> exact h) 3 false x r (ho r hr) q)⟩
def modT (m : Str × List Row) : DT := .sq false [.at (.str m.1), rowsT m.2]
def toldT (lib : Lib) : DT := .sq true (lib.map modT)
/-- a module's part while the list at L grows -/
def ItT (L : Addr) (H : Hp) (v : V) (m : Str × List Row) : Prop := ∃ T rl xs, v = .ref T ∧ T ≠ L ∧ rl ≠ L ∧ H T = some (.tup [.str m.1, .ref rl]) ∧ H rl = some (.lst xs) ∧ Paired (RowAt (fun y => y ≠ L) tupK H 3) xs m.2
theorem ItT.to {L : Addr} {H H' : Hp} {v : V} {m : Str × List Row} (h : ItT L H v m) (t : ∀ y o, y ≠ L → H y = some o → H' y = some o) : ItT L H' v m := by
  obtain ⟨T, rl, xs, e, h1, h2, h4, h5, h6⟩ := h
  exact ⟨T, rl, xs, e, h1, h2, t _ _ h1 h4, t _ _ h2 h5, paired_imp h6 fun _ _ q => q.to fun y kd ws k e => ⟨k, t _ _ k e⟩⟩
theorem ItT.dt {L : Addr} {H : Hp} {v : V} {m : Str × List Row} (h : ItT L H v m) (hl : m.2.length ≤ 24) (ho : ∀ r ∈ m.2, RowOk 3 false r) : DtAt H 9 v (modT m) := by
  obtain ⟨T, rl, xs, rfl, h1, h2, h4, h5, h6⟩ := h
  exact ⟨T, _, rfl, h4, by show 2 ≤ 16000000; decide, .cons ⟨rfl, rfl⟩ (.cons (rows_dt h5 hl ho h6) .nil)⟩
section
variable {P : PySem.Program} {w : World} {K : PySem.W.Frag} {mg : Str → Option Value} {base : Heap}
abbrev sLTold : Stmt := topS 57
theorem scLTold : FnScope ["_law_program", "_law_name"] ["_law_program"] (defScope sLTold) := ⟨rfl, rfl, rfl, by decide +kernel, rfl, by decide +kernel, by decide +kernel⟩
def spLTold (C : Addr) : Sp := fun vs H Q _ => ∃ (x dx rd sl : Addr) (lib : Lib) (ok : Addr → Prop), vs = [.ref x] ∧ ProgAt ok H C x dx rd sl lib ∧ LibR lib ∧
  ∀ H' l, Same H H' → H l = none → DtAt H' 10 (.ref l) (toldT lib) → Q (.ref l) H'
theorem ok_LTold {f C fM fR : Addr} {fd fdM fdR : FuncData} {k : Nat} (F : Fun K "_law_told" "_law_told" sLTold f fd) (B : Bl mg) (hk : 1 ≤ k) (gm_modules : OwnM P w K mg base 1 C "modules" ["self"] (spProgramModules C) fM fdM)
    (gm_rows : OwnM P w K mg base 1 C "rows" ["self", "module"] (spProgramRowsR C) fR fdR) : FnOk P w K mg base CX0 (k + 1) f fd ["_law_program"] (spLTold C) := by
  refine F.ok scLTold (fun vs H Q E h => ?_) (fun cdv A outer s H vs Q E hr h => ?_)
  · obtain ⟨x, dx, rd, sl, lib, ok, rfl, _⟩ := h
    rfl
  obtain ⟨x, dx, rd, sl, lib, ok, rfl, pa, lr, q⟩ := h
  refine ⟨_, (pss_one (ps_ret (pe_lc (own := [("_law_name", 1)]) (g := (gName 1)) (tt := tYes) (by rfl) scLTold.nd (pi_list (pe_meth0 (pv 0) gm_modules.c gm_modules.m gm_modules.F (hr.mono (by omega)) gm_modules.b .nil pass0)) (blkOk_by (own := [("_law_name", 1)]) (N := ["_law_program", "_law_name"]) (sc := defScope sLTold) (by decide +kernel)) (fun _ _ _ _ _ => (pg_name (i := 1) scLTold.nd rfl (by first | exact Or.inl rfl | exact Or.inr rfl))) (fun _ _ _ _ _ => pts_nil) (fun _ _ _ _ _ => (pe_tup (pa_cons (pv 1) (pa_cons (pe_meth (pv 0) gm_rows.c gm_rows.m gm_rows.F (hr.mono (by omega)) gm_rows.b .nil pass0 (pa_cons (pv 1) pa_nil)) pa_nil))))))), ?_⟩
  have hx := pa.ins
  obtain ⟨kvs, hrd, hla⟩ := pa.rows
  have lkv : kvs.length = lib.length := libAt_len hla
  have few := lr.few
  have ekeys : (kvs.map fun kv => kV kv.1) = (lib.map (·.1)).map V.str := by
    have e := congrArg (List.map kV) (libAt_keys hla)
    rw [List.map_map, List.map_map] at e
    rw [show (kvs.map fun kv => kV kv.1) = kvs.map (kV ∘ fun x => x.1) from rfl, e]
    rfl
  refine ⟨_, rfl, x, dx, _, rfl, hx, lk_modulesM _ _, x, dx, rd, .ref sl, kvs, rfl, hx, hrd, fun lm nlm => ⟨lm, rfl, ⟨_, SqL.of upd_same⟩, fun L nL => ?_⟩⟩
  rw [ekeys] at nL ⊢
  have s1 : Same H (upd H lm (.lst ((lib.map (·.1)).map V.str))) := Same.new nlm
  have hlm : (upd H lm (.lst ((lib.map (·.1)).map V.str))) lm = some (.lst ((lib.map (·.1)).map V.str)) := upd_same
  generalize hG1 : upd H lm _ = G1 at *
  have nLH : H L = none := Same.free s1 nL
  refine lc_it (walk_list (xs := (lib.map (·.1)).map V.str)) (fun i H' => Same G1 H' ∧ ∃ ys, H' L = some (.lst ys) ∧ Paired (ItT L H') ys (lib.take i))
    ⟨Same.new nL, [], upd_same, .nil⟩ (fun i H' _ ⟨sm, _⟩ => SqL.of (sm _ _ hlm)) ?_ ?_
  · rintro i y H2 H3 hi ⟨s2, ys, hL, hd⟩ ⟨rfl, hy⟩
    obtain ⟨⟨z, rs⟩, hm, rfl⟩ : ∃ m : Str × List Row, lib[i]? = some m ∧ y = .str m.1 := by
      rw [List.getElem?_map, List.getElem?_map] at hy
      cases e : lib[i]? with
      | none => rw [e] at hy; cases hy
      | some m => rw [e] at hy; exact ⟨m, rfl, (Option.some.inj hy).symm⟩
    have mem := List.mem_of_getElem? hm
    have sm := Same.trans s1 s2
    have kL : ∀ {H' : Hp}, Same H H' → LibAt (fun y => y ≠ L) tupK H' kvs lib := fun {H'} s' => hla.to fun y kd ws k e => ⟨ne_of_none e nLH, s' _ _ e⟩
    have lys : ys.length ≤ i := by
      rw [paired_len hd, List.length_take]
      omega
    have i8 : i < 8 := by simp at hi; omega
    refine ⟨rfl, _, rfl, _, rfl, x, dx, _, rfl, sm _ _ hx, lk_rowsM _ _, _, rfl, x, dx, rd, .ref sl, kvs, lib, _, z, rs, rfl, sm _ _ hx, .inl (sm _ _ hrd), kL sm, lr.nd, mem, fun l1 xs nl1 hxs => ?_⟩
    have l1L : l1 ≠ L := fun e => by rw [e, hL] at nl1; cases nl1
    have s4 : Same H3 (upd H3 l1 (.lst xs)) := Same.new nl1
    have hl1 : (upd H3 l1 (.lst xs)) l1 = some (.lst xs) := upd_same
    generalize hG4 : upd H3 l1 _ = G4 at *
    refine ⟨(by show 2 ≤ sizeLine; decide), fun T nT => ?_⟩
    have hL4 := s4 _ _ hL
    have TL : T ≠ L := fun e => by rw [e, hL4] at nT; cases nT
    have s6 : Same G4 (upd G4 T (.tup [.str z, .ref l1])) := Same.new nT
    have hT : (upd G4 T (.tup [.str z, .ref l1])) T = some (.tup [.str z, .ref l1]) := upd_same
    generalize hG6 : upd G4 T _ = G6 at *
    have s36 : Same H3 G6 := Same.trans s4 s6
    refine ⟨ys, s6 _ _ hL4, small (by omega), Same.upN (Same.trans s2 s36) nL, ys ++ [.ref T], upd_same, ?_⟩
    have ez : lib.take (i + 1) = lib.take i ++ [(z, rs)] := by rw [List.take_add_one, hm]; rfl
    rw [ez]
    have up : ∀ y o, y ≠ L → G6 y = some o → (upd G6 L (.lst (ys ++ [.ref T]))) y = some o := fun y o k e => by rw [upd_ne k]; exact e
    exact paired_app ⟨T, l1, xs, rfl, TL, l1L, up _ _ TL hT, up _ _ l1L (s6 _ _ hl1), paired_imp hxs fun v r q => q.to fun y kd ws k e => ⟨k, up _ _ k (s36 _ _ e)⟩⟩ (paired_imp hd fun v m h => h.to fun y o k e => up _ _ k (s36 _ _ e))
  · rintro H2 ⟨s2, ys, hL, hd⟩
    rw [List.length_map, List.length_map, List.take_length] at hd
    refine q _ L (Same.trans s1 s2) nLH ⟨L, ys, rfl, hL, by rw [List.length_map]; omega, ?_⟩
    exact paired_mapR (paired_impM hd fun v m hm h => h.dt (lr.len m hm) (lr.rows m hm))
end
end Ft
set_option Elab.async false
set_option linter.all false
set_option maxRecDepth 100000
set_option maxHeartbeats 1000000
set_option pp.maxSteps 3000
set_option pp.deepTerms.threshold 8
namespace Ft
open PySem PySem.Spec L2 PyProof.Rows
theorem rising_of : ∀ (zs : List Str) (p : Str), (p :: zs).Pairwise (fun a b => a.cps.toList < b.cps.toList) → PyProof.Rows.risingS p zs = true
  | [], _, _ => rfl
  | x :: r, p, h => by
    rw [List.pairwise_cons] at h
    show (!ltCps x.cps.toList p.cps.toList && PyProof.Rows.risingS x r) = true
    rw [rising_of r x h.2, Bool.and_true, ltCps_eq, decide_eq_false (fun c => List.lt_asymm (h.1 x (by simp)) c)]
    rfl
theorem rdMods_facts {L : List Str} {d a : Nat} {last : Str} {lib : Lib} (h : RdMods L (d + 1) a last lib) :
    (∀ m ∈ lib, isW m.1 = true ∧ ∀ r ∈ m.2, RowG d r) ∧ (last :: lib.map (·.1)).Pairwise (fun a b : Str => a.cps.toList < b.cps.toList) ∧ (a ≤ L.length → (allW d lib).length + a ≤ L.length ∧ lib.length + a ≤ L.length) := by
  induction h with
  | done e _ => exact ⟨(fun m hm => by cases hm), List.pairwise_singleton _ _, fun h => ⟨by simpa [allW] using h, by simpa using h⟩⟩
  | @step a a1 last w rs lib hz hw hlt hR hM ih =>
    obtain ⟨i1, i2, i3⟩ := ih
    refine ⟨fun m hm => ?_, ?_, fun ha => ?_⟩
    · rcases List.mem_cons.mp hm with rfl | hm
      · exact ⟨hw, rdRows_G hR⟩
      · exact i1 m hm
    · rw [List.map_cons, List.pairwise_cons]
      refine ⟨fun z hz2 => ?_, i2⟩
      rcases List.mem_cons.mp hz2 with rfl | hz2
      · exact hlt
      · exact List.lt_trans hlt ((List.pairwise_cons.mp i2).1 z hz2)
    · have h1 := rdRows_cnt hR []
      have h2 := rdRows_len hR
      have h4 := rdRows_lt hR
      obtain ⟨h3, h5⟩ := i3 h2
      have e : (allW d ((w, rs) :: lib)).length = (walkL d [] rs).length + (allW d lib).length := by
        unfold allW
        rw [List.flatMap_cons, List.length_append]
      rw [e, List.length_cons]
      omega
theorem rdMods_S {L : List Str} {d : Nat} {lib : Lib} (h : RdMods L (d + 1) 0 Str.empty lib) : LibS lib := by
  obtain ⟨h1, h2, _⟩ := rdMods_facts h
  rw [List.pairwise_cons] at h2
  refine ⟨?_, fun m hm => (h1 m hm).1, ?_, ?_⟩
  · cases h with
    | done _ e => exact absurd rfl e
    | step => exact Nat.succ_pos _
  · exact List.Pairwise.imp (S := fun a b : Str => a ≠ b) (fun {a b} (h : a.cps.toList < b.cps.toList) (e : a = b) => absurd (by rw [e] at h; exact h) (List.lt_irrefl b.cps.toList)) h2.2
  · cases hl : lib.map (·.1) with
    | nil => rfl
    | cons z zs => rw [hl] at h2; exact rising_of zs z h2.2
theorem libR_ofQ {lib : Lib} (lq : LibQ lib) (ls : LibS lib) (h : firstM lib = none) : LibR lib := by
  refine ⟨lq.few, ls.pos, ls.nd, ls.word, lq.len, fun m hm r hr => ?_⟩
  have h1 := List.findSome?_eq_none_iff.mp h m hm
  have h2 : firstL 3 false [] m.2 = none := Option.map_eq_none_iff.mp h1
  obtain ⟨k, hk⟩ := List.getElem?_of_mem hr
  have hk2 : (r, k) ∈ m.2.zipIdx := List.mem_of_getElem? (i := k) (by rw [List.getElem?_zipIdx, hk]; simp)
  exact first_ok (lq.rows m hm r hr).2 (List.findSome?_eq_none_iff.mp h2 _ hk2)
theorem pi_seqK {X : Cx} {K : PySem.W.Frag} {tg l : Expr} {tl : TE} (hl : PE X l tl) (k : X.K = K) : PI X tg l (iSeq K tl) := by subst k; exact pi_seq hl
def errT (e : Nat) : DT := .sq false [.at (.str "text"), .at (.int (e : Nat))]
def pathT (y : List Int) : DT := .sq false (y.map fun i => .at (.int i))
def badT (z : Str) (y : List Int) : DT := .sq false [.at (.str "program"), .at (.str z), pathT y]
def goodT (lib : Lib) : DT := .sq false [.at (.str "told"), toldT lib]
def dueT (d : Nat) (lib : Lib) : Option DT := if withinB d lib = true then match firstM lib with
  | some q => some (badT q.1 q.2)
  | none => some (goodT lib) else none
def DueAt (H : Hp) (v : V) : Option DT → Prop
  | none => v = .non
  | some t => DtAt H 11 v t
theorem path_dt {H : Hp} {m : Nat} {v : V} {y : List Int} (h : PathAt H v y) (hl : y.length ≤ 1000) : DtAt H (m + 1) v (pathT y) := by
  obtain ⟨a, rfl, h⟩ := h
  refine ⟨a, _, rfl, h, by rw [List.length_map]; omega, ?_⟩
  have go : ∀ l : List Int, Paired (DtAt H m) (l.map V.int) (l.map fun n => DT.at (.int n)) := by
    intro l
    induction l with
    | nil => exact .nil
    | cons n l ih => exact .cons (by cases m <;> exact ⟨rfl, rfl⟩) ih
  exact go _
theorem firstR_len : ∀ (d : Nat) (wi : Bool) (p : List Int) (q : Row × Nat) (y : List Int), firstR d wi p q = some y → y.length ≤ p.length + 2 * d + 1 := by
  intro d
  induction d with
  | zero =>
    intro wi p q y h
    have h : (if badR wi q.1 = true then some (p ++ [(q.2 : Int)]) else none) = some y := h
    split at h
    · rw [← Option.some.inj h, List.length_append]; exact Nat.le_refl _
    · cases h
  | succ d ih =>
    intro wi p q y h
    have h : (if badR wi q.1 = true then some (p ++ [(q.2 : Int)]) else (blocks q.1).zipIdx.findSome? fun b => b.1.zipIdx.findSome? (firstR d (wi || decide (rowWord q.1 = "make")) (p ++ [(q.2 : Int), (b.2 : Int)]))) = some y := h
    split at h
    · rw [← Option.some.inj h, List.length_append, List.length_singleton]; omega
    · obtain ⟨b, _, h⟩ := List.exists_of_findSome?_eq_some h
      obtain ⟨x, _, h⟩ := List.exists_of_findSome?_eq_some h
      have := ih _ _ _ _ h
      simp at this
      omega
theorem firstM_len {lib : Lib} {z : Str} {y : List Int} (h : firstM lib = some (z, y)) : y.length ≤ 7 := by
  obtain ⟨m, _, h2⟩ := List.exists_of_findSome?_eq_some h
  obtain ⟨y2, h3, e⟩ := Option.map_eq_some_iff.mp h2
  obtain ⟨_, e2⟩ := Prod.mk.inj e
  obtain ⟨x, _, h4⟩ := List.exists_of_findSome?_eq_some h3
  have := firstR_len _ _ _ _ _ h4
  rw [← e2]
  simpa using this
section
variable {P : PySem.Program} {w : World} {K : PySem.W.Frag} {mg : Str → Option Value} {base : Heap}
abbrev sLDue : Stmt := topS 55
theorem scLDue : FnScope ["_law_text_here", "_law_found", "_law_name", "_law_path", "_law_row_here"] ["_law_text_here"] (defScope sLDue) := ⟨rfl, rfl, rfl, by decide +kernel, rfl, by decide +kernel, by decide +kernel⟩
def spLDue (d : Nat) : Sp := fun vs H Q _ => ∃ (text : Str) (ls : List Str) (lst : Str), vs = [.str text] ∧ Txt.split text "\n" = ls ++ [lst] ∧ text.length ≤ 14000000 ∧ LnOk ls ∧ ls.length ≤ 14400000 ∧ NumSh ls ∧ d ≤ 400 ∧
  ((∃ e, (ModsE ls (d + 1) 0 Str.empty e ∨ (lst ≠ Str.empty ∧ e = ls.length + 1 ∧ ∃ lib, RdMods ls (d + 1) 0 Str.empty lib)) ∧ ∀ H' v, Same H H' → DtAt H' 11 v (errT e) → Q v H') ∨
    (lst = Str.empty ∧ ∃ lib, RdMods ls (d + 1) 0 Str.empty lib ∧ ∀ H' v, Same H H' → DueAt H' v (dueT d lib) → Q v H'))
theorem ok_LDue {f : Addr} {fd : FuncData} {k d : Nat} (F : Fun K "_law_due" "_law_due" sLDue f fd) (B : Bl mg) (hk : 5 + d ≤ k) (hk2 : 8 ≤ k) (gLRead : Own P w K mg base (4 + d) "_law_read" ["_law_text_here"] (spLRead d)) (gLWithin : Own P w K mg base (3 + d) "_law_within" ["_law_library_here"] (spLWithin d))
    (gLFirstWrong : Own P w K mg base 6 "_law_first_wrong" ["_law_rows", "_law_ahead", "_law_in_make"] (spFirstWrongG 3)) (gLTupled : Own P w K mg base 8 "_law_tupled" ["_law_thing"] (spLTupled 7)) : FnOk P w K mg base CX0 (k + 1) f fd ["_law_text_here"] (spLDue d) := by
  refine F.ok scLDue (fun vs H Q E h => ?_) (fun cdv A outer s H vs Q E hr h => ?_)
  · obtain ⟨t, ls, lst, rfl, _⟩ := h
    rfl
  obtain ⟨t, ls, lst, rfl, hsp, htl, lok, lln, num, hd4, q⟩ := h
  refine ⟨_, (pss_cons (ps_set (i := 1) scLDue.nd rfl (by first | exact Or.inl rfl | exact Or.inr rfl) (pe_own gLRead (hr.mono (by omega)) (by rfl) (pa_cons (pv 0) pa_nil)))
      (pss_cons (ps_if (pt_val (pe_callB call_isi (by rfl) B.isinstance (by decide +kernel) (pa_cons (pv 1) (pa_cons (pe_bltn (v := .ty "int") (by rfl) B.int (by decide +kernel) rfl) pa_nil)))) (pss_one (ps_ret (pe_tup (pa_cons pe_str (pa_cons (pv 1) pa_nil))))) pss_nil)
      (pss_cons (ps_if (pt_not (pt_val (pe_own gLWithin (hr.mono (by omega)) (by rfl) (pa_cons (pv 1) pa_nil)))) (pss_one (ps_ret pe_non)) pss_nil)
      (pss_cons (ps_for PassesOwn.never rfl (pi_list (pe_callB (call_sortedD rfl) (by rfl) B.sorted (by decide +kernel) (pa_cons (pv 1) pa_nil))) (pg_name (i := 2) scLDue.nd rfl (by first | exact Or.inl rfl | exact Or.inr rfl)) (pss_cons (ps_set (i := 3) scLDue.nd rfl (by first | exact Or.inl rfl | exact Or.inr rfl) (pe_own gLFirstWrong (hr.mono (by omega)) (by rfl) (pa_cons (pe_dget (hu_of hr) (pv 1) (pv 2) (fun _ _ => rfl)) (pa_cons (pe_tup pa_nil) (pa_cons pe_bl pa_nil)))))
      (pss_one (ps_if (pt_cmpR op_notN (pv 3) pe_non (nomark _)) (pss_one (ps_ret (pe_tup (pa_cons pe_str (pa_cons (pv 2) (pa_cons (pv 3) pa_nil)))))) pss_nil))))
      (pss_one (ps_ret (pe_tup (pa_cons pe_str (pa_cons (pe_lc (own := [("_law_name", 2)]) (g := (gName 2)) (tt := tYes) (by rfl) scLDue.nd (pi_list (pe_callB (call_sortedD rfl) (by rfl) B.sorted (by decide +kernel) (pa_cons (pv 1) pa_nil))) (blkOk_by (own := [("_law_name", 2)]) (N := ["_law_text_here", "_law_found", "_law_name", "_law_path", "_law_row_here"]) (sc := defScope sLDue) (by decide +kernel)) (fun _ _ _ _ _ => (pg_name (i := 2) scLDue.nd rfl (by first | exact Or.inl rfl | exact Or.inr rfl))) (fun _ _ _ _ _ => pts_nil) (fun _ _ _ _ _ => (pe_tup (pa_cons (pv 2) (pa_cons (pe_lc (own := [("_law_row_here", 4)]) (g := (gName 4)) (tt := tYes) (by rfl) scLDue.nd (pi_seqK (K := K) (pe_dget (hu_of hr) (pv 1) (pv 2) (fun _ _ => rfl)) rfl) (blkOk_by (own := [("_law_row_here", 4)]) (by rfl)) (fun _ _ _ _ _ => (pg_name (i := 4) scLDue.nd rfl (by first | exact Or.inl rfl | exact Or.inr rfl))) (fun _ _ _ _ _ => pts_nil) (fun _ _ _ _ _ => (pe_own gLTupled (hr.mono (by omega)) (by rfl) (pa_cons (pv 4) pa_nil)))) pa_nil))))) pa_nil))))))))), ?_⟩
  refine ⟨_, rfl, t, ls, lst, rfl, hsp, htl, lok, num, by omega, ?_⟩
  rcases q with ⟨e, he, q⟩ | ⟨hl, lib, hrd, q⟩
  · refine .inl ⟨e, he, fun H1 s1 => ?_⟩
    refine ⟨_, rfl, _, _, _, _, _, rfl, .ty _, .base (.int _), kit_ty (r := true) (by decide +kernel), true, rfl, iteT ⟨_, rfl, (by show 2 ≤ sizeLine; decide), fun T nT => ?_⟩⟩
    exact q _ _ (Same.trans s1 (Same.new nT)) ⟨T, _, rfl, upd_same, by show 2 ≤ 16000000; decide, .cons ⟨rfl, rfl⟩ (.cons ⟨rfl, rfl⟩ .nil)⟩
  refine .inr ⟨hl, lib, hrd, fun H1 p kvs s1 np hp hla => ?_⟩
  obtain ⟨f1, _, f3⟩ := rdMods_facts hrd
  obtain ⟨f4, f5⟩ := f3 (Nat.zero_le _)
  have lS := rdMods_S hrd
  refine ⟨_, rfl, _, _, _, _, _, rfl, .ty _, .base (.dK hp), kit_ty (r := false) (by decide +kernel), false, rfl, iteF ?_⟩
  refine ⟨_, rfl, p, kvs, lib, _, rfl, hp, hla, fun m hm => (f1 m hm).2, by omega, by omega, lS.nd, hd4, fun H2 s2 => ⟨_, rfl, ?_⟩⟩
  have s02 := Same.trans s1 s2
  have hp2 := s2 _ _ hp
  cases hw : withinB d lib with
  | false =>
    refine iteT (q _ _ s02 ?_)
    unfold dueT
    rw [hw, if_neg Bool.false_ne_true]
    rfl
  | true =>
  refine iteF ?_
  have lq := libQ_of (fun m hm => (f1 m hm).2) hw
  have few := lq.few
  have hla3 : LibAt (fun x => H x = none ∧ x ≠ p) lawK H2 kvs lib := paired_impM (hla.to (Keep.fr (Fr.same s2) fun _ k => k)) fun kv m hm ⟨e, xs, h1, h2⟩ => ⟨e, xs, h1, paired_impM h2 fun v r hr2 q => rowAt_atG (lq.rows m hm r hr2).1 q⟩
  -- the first wrong row
  refine ⟨_, rfl, p, kvs, lib.map (·.1), rfl, .inl hp2, libAt_keys hla3, by rw [List.length_map]; omega, fun ys ll hperm hsort nll => ?_⟩
  have sll : Same H2 (upd H2 ll (.lst (ys.map V.str))) := Same.new nll
  have hll : (upd H2 ll (.lst (ys.map V.str))) ll = some (.lst (ys.map V.str)) := upd_same
  generalize hG3 : upd H2 ll _ = G3 at *
  obtain ⟨lib2, e2, p2⟩ := lib_perm hperm lib rfl
  obtain rfl : lib2 = lib := libs_eq p2 (List.Perm.refl _) (by rw [e2]; exact hsort) lS.srt lS.nd
  subst e2
  have s03 := Same.trans s02 sll
  have hp3 := sll _ _ hp2
  refine ⟨ll, rfl, ⟨_, SqL.of hll⟩, ?_⟩
  refine for_it (walk_list (xs := (lib2.map (·.1)).map V.str)) (fun i σ H' => firstM (lib2.take i) = none ∧ Same G3 H' ∧ ∃ v2 v3 v4, σ = [some (.str t), some (.ref p), v2, v3, v4])
    ⟨rfl, Same.refl _, _, _, _, rfl⟩ (fun i σ H' _ ⟨_, sm, _⟩ => SqL.of (sm _ _ hll)) ?_ ?_
  · rintro i x σ H4 H5 hi ⟨hno, s4, v2, v3, v4, rfl⟩ ⟨rfl, hx⟩
    obtain ⟨⟨z', rs⟩, hmi, rfl⟩ : ∃ m : Str × List Row, lib2[i]? = some m ∧ x = .str m.1 := by
      rw [List.getElem?_map, List.getElem?_map] at hx
      cases e : lib2[i]? with
      | none => rw [e] at hx; cases hx
      | some m => rw [e] at hx; exact ⟨m, rfl, (Option.some.inj hx).symm⟩
    have hm := List.mem_of_getElem? hmi
    have s24 := Same.trans sll s4
    have hpk := s24 _ _ hp2
    obtain ⟨v, hv, hrows⟩ := libAt_val (hla3.to (Keep.fr (Fr.same s24) fun _ k => k)) lS.nd hm
    have dg : DGet H5 p (.str z') (some v) := by rw [← hv]; exact DGet.k (k := Sum.inr z') hpk
    refine ⟨_, rfl, _, rfl, p, v, rfl, dg, Nat.zero_le _, fun t0 nt0 => ?_⟩
    have st0 : Same H5 (upd H5 t0 (.tup [])) := Same.new nt0
    refine ⟨v, .ref t0, _, lawK, false, rs, [], rfl, hrows.to (Keep.fr (Fr.same st0) fun _ k => k), fun r hr => (lq.rows _ hm r hr).1, ⟨t0, rfl, upd_same⟩, by simp, fun G6 s6 x hx => ?_⟩
    have s46 := Same.trans st0 s6
    cases hf : firstL 3 false [] rs with
    | none =>
      rw [hf] at hx
      obtain rfl : x = .non := hx
      refine ⟨_, rfl, rfl, _, rfl, iteF ⟨?_, Same.trans s4 s46, _, _, _, rfl⟩⟩
      rw [List.take_add_one, hmi]
      unfold firstM
      rw [List.findSome?_append]
      have h1 : List.findSome? (fun m : Str × List Row => (firstL 3 false [] m.2).map fun y => (m.1, y)) (lib2.take i) = none := hno
      rw [h1, Option.none_or]
      show List.findSome? _ [(z', rs)] = none
      rw [List.findSome?_cons, hf]
      rfl
    | some y =>
      rw [hf] at hx
      obtain ⟨xa, rfl, hxa⟩ := hx
      have hfm2 : firstM lib2 = some (z', y) := by
        have e : lib2 = lib2.take i ++ (z', rs) :: lib2.drop (i + 1) := by
          have h1 := List.take_append_drop i lib2
          rw [List.drop_eq_getElem_cons (by exact (List.getElem?_eq_some_iff.mp hmi).1)] at h1
          rw [(List.getElem?_eq_some_iff.mp hmi).2] at h1
          exact h1.symm
        rw [e]
        unfold firstM
        rw [List.findSome?_append]
        have h1 : List.findSome? (fun m : Str × List Row => (firstL 3 false [] m.2).map fun y => (m.1, y)) (lib2.take i) = none := hno
        rw [h1, List.findSome?_cons, hf]
        rfl
      refine ⟨_, rfl, rfl, _, rfl, iteT ⟨_, rfl, _, rfl, (by show 3 ≤ sizeLine; decide), fun T nT => ?_⟩⟩
      have s7 := Same.trans s46 (Same.new nT (o := .tup [.str "program", .str z', .ref xa]))
      refine q _ _ (Same.trans s03 (Same.trans s4 s7)) ?_
      unfold dueT
      rw [hw, if_pos rfl, hfm2]
      refine ⟨T, _, rfl, upd_same, by show 3 ≤ 16000000; decide, .cons ⟨rfl, rfl⟩ (.cons ⟨rfl, rfl⟩ (.cons ?_ .nil))⟩
      exact path_dt ⟨xa, rfl, Same.new nT _ _ hxa⟩ (Nat.le_trans (firstM_len hfm2) (by decide))
  rintro σ H4 ⟨hno, s4, v2, v3, v4, rfl⟩
  rw [List.take_of_length_le (by rw [List.length_map, List.length_map]; exact Nat.le_refl _)] at hno
  have lr := libR_ofQ lq lS hno
  have s24 := Same.trans sll s4
  have hp4 := s24 _ _ hp2
  have hla4 := hla3.to (Keep.fr (Fr.same s24) fun _ k => k)
  -- the rows that are due
  refine ⟨_, rfl, p, kvs, lib2.map (·.1), rfl, .inl hp4, libAt_keys hla3, by rw [List.length_map]; omega, fun ys l2 hperm2 hsort2 nl2 => ?_⟩
  obtain ⟨lib3, e3, p3⟩ := lib_perm hperm2 lib2 rfl
  obtain rfl : lib3 = lib2 := libs_eq p3 (List.Perm.refl _) (by rw [e3]; exact hsort2) lS.srt lS.nd
  subst e3
  have s5 : Same H4 (upd H4 l2 (.lst ((lib3.map (·.1)).map V.str))) := Same.new nl2
  have hl2 : (upd H4 l2 (.lst ((lib3.map (·.1)).map V.str))) l2 = some (.lst ((lib3.map (·.1)).map V.str)) := upd_same
  generalize hG5 : upd H4 l2 _ = G5 at *
  have hp5 := s5 _ _ hp4
  have hla5 := hla4.to (Keep.fr (Fr.same s5) fun _ k => k)
  refine ⟨l2, rfl, ⟨_, SqL.of hl2⟩, fun L nL => ?_⟩
  refine lc_it (walk_list (xs := (lib3.map (·.1)).map V.str)) (fun i H' => Same G5 H' ∧ ∃ ys, H' L = some (.lst ys) ∧ Paired (ItT L H') ys (lib3.take i))
    ⟨Same.new nL, [], upd_same, .nil⟩ (fun i H' _ ⟨sm, _⟩ => SqL.of (sm _ _ hl2)) ?_ ?_
  · rintro i x H6 H7 hi ⟨s6, ys, hL, hys⟩ ⟨rfl, hx⟩
    obtain ⟨⟨z', rs⟩, hmi, rfl⟩ : ∃ m : Str × List Row, lib3[i]? = some m ∧ x = .str m.1 := by
      rw [List.getElem?_map, List.getElem?_map] at hx
      cases e : lib3[i]? with
      | none => rw [e] at hx; cases hx
      | some m => rw [e] at hx; exact ⟨m, rfl, (Option.some.inj hx).symm⟩
    have hm := List.mem_of_getElem? hmi
    obtain ⟨v, hv, hrows⟩ := libAt_val (hla5.to (Keep.fr (Fr.same s6) fun _ k => k)) lS.nd hm
    have dg : DGet H7 p (.str z') (some v) := by rw [← hv]; exact DGet.k (k := Sum.inr z') (s6 _ _ hp5)
    obtain ⟨us, ⟨ua, ukd, rfl, oku, kku, hua⟩, hus⟩ := hrows
    refine ⟨rfl, _, rfl, _, rfl, _, rfl, p, .ref ua, rfl, dg, ua, ukd, us, rfl, sq_of hua, fun M nM => ?_⟩
    have ML : M ≠ L := fun e => by rw [e, hL] at nM; cases nM
    have rok := lr.rows _ hm
    have l24 : rs.length ≤ 24 := lr.len _ hm
    have lus : us.length = rs.length := paired_len hus
    refine lc_it walk_seq (fun j H' => Same H7 H' ∧ ∃ ys, H' M = some (.lst ys) ∧ Paired (RowAt (fun x => x ≠ M ∧ x ≠ L) tupK H' 3) ys (rs.take j))
      ⟨Same.new nM, [], upd_same, .nil⟩ (fun i H' _ ⟨s4, _⟩ => sq_of (s4 _ _ hua)) ?_ ?_
    · rintro j y H8 H9 hj ⟨s8, zs, hM, hzs⟩ ⟨rfl, hy⟩
      obtain ⟨r, hr', hrow⟩ := paired_get hus hy
      have r1 := rok r (List.mem_of_getElem? hr')
      refine ⟨rfl, _, rfl, y, encR 3 r, _, rfl, enc_row (fun _ _ _ => trivial) 3 false y r r1 (hrow.to (Keep.fr (Fr.same s8) fun _ k => k)), fun K13 v' s13 hv' => ?_⟩
      have et : rs.take (j + 1) = rs.take j ++ [r] := by rw [List.take_add_one, hr']; rfl
      have ly : zs.length ≤ 24 := by rw [paired_len hzs, List.length_take]; omega
      refine ⟨zs, s13 _ _ hM, small (by omega), Same.upN (Same.trans s8 s13) nM, zs ++ [v'], upd_same, ?_⟩
      rw [et]
      refine paired_app ?_ (paired_imp hzs fun v f h => h.to fun x kd zs k e => ⟨k, by rw [upd_ne k.1]; exact s13 _ _ e⟩)
      exact (dec_row 3 false _ v' r r1 hv').to fun y kd zs k e => by
        have yM : y ≠ M := fun z => by rw [z, hM] at k; cases k
        have yL : y ≠ L := fun z => by rw [z, s8 _ _ hL] at k; cases k
        exact ⟨⟨yM, yL⟩, by rw [upd_ne yM]; exact e⟩
    · rintro H8 ⟨s8, zs, hM, hzs⟩
      rw [lus, List.take_length] at hzs
      refine ⟨(by show 2 ≤ sizeLine; decide), fun T nT => ?_⟩
      have hL8 := s8 _ _ hL
      have TL : T ≠ L := fun e => by rw [e, hL8] at nT; cases nT
      have s9 : Same H8 (upd H8 T (.tup [.str z', .ref M])) := Same.new nT
      have hT : (upd H8 T (.tup [.str z', .ref M])) T = some (.tup [.str z', .ref M]) := upd_same
      generalize hG9 : upd H8 T _ = G9 at *
      have s79 := Same.trans s8 s9
      have i4 : ys.length ≤ 4 := by rw [paired_len hys, List.length_take]; omega
      refine ⟨ys, s9 _ _ hL8, small (by omega), Same.upN (Same.trans s6 s79) nL, ys ++ [.ref T], upd_same, ?_⟩
      have ez : lib3.take (i + 1) = lib3.take i ++ [(z', rs)] := by rw [List.take_add_one, hmi]; rfl
      rw [ez]
      have up : ∀ y o, y ≠ L → G9 y = some o → (upd G9 L (.lst (ys ++ [.ref T]))) y = some o := fun y o k e => by rw [upd_ne k]; exact e
      exact paired_app ⟨T, M, zs, rfl, TL, ML, up _ _ TL hT, up _ _ ML (s9 _ _ hM), paired_imp hzs fun v r q => q.to fun y kd ws k e => ⟨k.2, up _ _ k.2 (s9 _ _ e)⟩⟩ (paired_imp hys fun v m h => h.to fun y o k e => up _ _ k (s79 _ _ e))
  rintro H6 ⟨s6, ys, hL, hys⟩
  rw [List.length_map, List.length_map, List.take_length] at hys
  refine ⟨(by show 2 ≤ sizeLine; decide), fun T nT => ?_⟩
  have s7 : Same H6 (upd H6 T (.tup [.str "told", .ref L])) := Same.new nT
  have TL : T ≠ L := fun e => by rw [e, hL] at nT; cases nT
  refine q _ _ (Same.trans s03 (Same.trans s4 (Same.trans s5 (Same.trans s6 s7)))) ?_
  unfold dueT
  rw [hw, if_pos rfl, hno]
  refine ⟨T, _, rfl, upd_same, by show 2 ≤ 16000000; decide, .cons ⟨rfl, rfl⟩ (.cons ?_ .nil)⟩
  refine ⟨L, ys, rfl, s7 _ _ hL, by rw [List.length_map]; omega, ?_⟩
  refine paired_mapR (paired_impM hys fun v m hm h => (h.to fun y o k e => s7 _ _ e).dt (lr.len m hm) (lr.rows m hm))
end
end Ft
set_option Elab.async false
set_option linter.all false
set_option maxRecDepth 100000
set_option maxHeartbeats 1000000
set_option pp.maxSteps 3000
set_option pp.deepTerms.threshold 8
namespace Ft
open PySem L2
theorem pe_tried3T {T : List (Addr × Str)} (qn : Str) (k : Nat) {X : Cx} {CP CT CW g c Pt : Addr} {fd : FuncData} {params : Arguments} {body : Expr} {scope : Scope} {t : XK → TE} {p lpos pos : Pos} (F : Fun X.K "_law_tried" "_law_tried" sLTried g fd) (m : X.mg "_law_tried" = some (.ref g)) (b : Binds X.K fd ["_law_deed"] [])
    (TR : Tri3 X.prog X.w X.K X.mg X.base CP CT CW)
    (TB : LamX.TabB X.base X.mg c Pt) (hmT : (Pt, qn) ∈ T) (hu : ∀ p ∈ T, p.1 = Pt → p.2 = qn) (hcode : X.env.code = .ref c) (hq : X.env.qual ++ "<lambda>" = qn) (hr : Room (k + 2) X.A) (L : LamX.LamS X.env.scope scope) (hdef : defaultsOf params X.env = ([], []))
    (hbind : ∀ (q : Str) (cl : List (Str × Addr)) (pm cv ctv : Value), bindArgs (PySem.W.kla_fn "<lambda>" q params body scope cl pm cv ctv) ⟨[], []⟩ = pure [])
    (hbody : ∀ (A : Around) (outer : List Env) (s : Shared) (H : Hp) (E : XK) (f c' : Addr), Room k (A.deeper (LamX.lamEnv X scope s.heap.objs.size f c')) → PE (LamX.lamCx X A outer s H E scope f c') body (t E)) (hg : Gl X "_law_tried" := by rfl) :
    PE X (.Call (.Name "_law_tried" p) [.Lambda params body scope lpos] [] pos) (LamX.tLam T (TTri3 CP CT CW) t) := by
  obtain ⟨oc, od, kV, doc, pm, an, cdv, ct, osl, rfl, lk, hcd⟩ := F.ex
  subst hq
  exact LamX.pe_lamcall (Ng := ["_law_deed", "_law_found", "e"]) (a := "_law_deed") hg m F.kp lk hcd b scLTried rfl (.inl rfl) (tried3_gives TR) TB hcode hmT hu hr L hdef hbind hbody
theorem ext_sameL {H H' H2 : Hp} (e : LamX.ExtN H H') (s : Same H' H2) : LamX.ExtN H H2 := fun b o q n => s _ _ (e _ _ q n)
section
variable {T : List (Addr × Str)} {CP CT CW : Addr} {H : Hp} {σ : L2.St} {Q : VK} {body : XK → TE}
theorem tried_text {e : Nat} (tb : LamX.Tabs T H) (hb : ∀ (H2 : Hp) (R : VK) (E : XK), LamX.ExtN H H2 → XBad CT "line" (.int (e : Nat)) H2 E → body E σ H2 R) (q : ∀ H' p, LamX.ExtN H H' → LamX.Tabs T H' → DtAt H' 11 (.ref p) (errT e) → Q (.ref p) H') :
    LamX.tLam T (TTri3 CP CT CW) body σ H Q := by
  refine ⟨tb, fun H1 e1 t1 p0 n0 => ?_⟩
  have s0 := Same.new n0 (o := .tup [.str "odd"])
  generalize upd H1 p0 _ = H2 at *
  have e2 : LamX.ExtN H H2 := ext_sameL e1 s0
  refine ⟨fun cls d H' => ∃ dd, cls = .ref CT ∧ d = some dd ∧ Same H2 H' ∧ H' dd = some (.xd [("line", .int (e : Nat))]), fun cls d H' ⟨dd, e1, e2', s, h⟩ => ?_, fun R hR => ?_⟩
  · subst e1 e2'
    refine ⟨dd, rfl, .inl ⟨rfl, _, h, fun p np => ?_⟩⟩
    have s3 := Same.trans s (Same.new np (o := .tup [.str "text", .int (e : Nat)]))
    exact q _ p (ext_sameL e2 s3) (t1.ext (Same.trans s0 s3)) ⟨p, _, rfl, upd_same, by show 2 ≤ 16000000; decide, .cons ⟨rfl, rfl⟩ (.cons ⟨rfl, rfl⟩ .nil)⟩
  · exact hb H2 _ _ e2 fun H3 d s nd => ⟨d, rfl, rfl, Same.trans s (Same.new nd), upd_same⟩
theorem tried_prog {z : Str} {y : List Int} (hy : y.length ≤ 7) (tb : LamX.Tabs T H) (hb : ∀ (H2 : Hp) (R : VK) (E : XK), LamX.ExtN H H2 → XBadP CP z y H2 E → body E σ H2 R) (q : ∀ H' p, LamX.ExtN H H' → LamX.Tabs T H' → DtAt H' 11 (.ref p) (badT z y) → Q (.ref p) H') :
    LamX.tLam T (TTri3 CP CT CW) body σ H Q := by
  refine ⟨tb, fun H1 e1 t1 p0 n0 => ?_⟩
  have s0 := Same.new n0 (o := .tup [.str "odd"])
  generalize upd H1 p0 _ = H2 at *
  have e2 : LamX.ExtN H H2 := ext_sameL e1 s0
  refine ⟨fun cls d H' => ∃ dd u, cls = .ref CP ∧ d = some dd ∧ Same H2 H' ∧ PathAt H' u y ∧ H' dd = some (.xd [("path", u), ("module", .str z)]), fun cls d H' ⟨dd, u, e1, e2', s, hu, h⟩ => ?_, fun R hR => ?_⟩
  · subst e1 e2'
    refine ⟨dd, rfl, .inr (.inr ⟨rfl, _, u, h, fun p np => ?_⟩)⟩
    have s1 := Same.new np (o := .tup [.str "program", .str z, u])
    have s3 := Same.trans s s1
    refine q _ p (ext_sameL e2 s3) (t1.ext (Same.trans s0 s3)) ⟨p, _, rfl, upd_same, by show 3 ≤ 16000000; decide, .cons ⟨rfl, rfl⟩ (.cons ⟨rfl, rfl⟩ (.cons ?_ .nil))⟩
    exact path_dt (hu.to fun b xs e => s1 _ _ e) (Nat.le_trans hy (by decide))
  · exact hb H2 _ _ e2 fun H3 d u s hu nd => ⟨d, u, rfl, rfl, Same.trans s (Same.new nd), hu.to fun b xs e => Same.new nd _ _ e, upd_same⟩
theorem tried_told {t : DT} (tb : LamX.Tabs T H) (hb : ∀ (H2 : Hp) (R : VK) (E : XK), LamX.ExtN H H2 → (∀ v H3, Same H2 H3 → DtAt H3 10 v t → R v H3) → body E σ H2 R) (q : ∀ H' p, LamX.ExtN H H' → LamX.Tabs T H' → DtAt H' 11 (.ref p) (.sq false [.at (.str "told"), t]) → Q (.ref p) H') :
    LamX.tLam T (TTri3 CP CT CW) body σ H Q := by
  refine ⟨tb, fun H1 e1 t1 p0 n0 => ?_⟩
  have s0 := Same.new n0 (o := .tup [.str "odd"])
  generalize upd H1 p0 _ = H2 at *
  have e2 : LamX.ExtN H H2 := ext_sameL e1 s0
  refine ⟨fun _ _ _ => False, fun cls d H' h => h.elim, fun R hR => hb H2 _ _ e2 fun v H3 s3 hv => hR v H3 fun p np => ?_⟩
  have s1 := Same.new np (o := .tup [.str "told", v])
  have s4 := Same.trans s3 s1
  refine q _ p (ext_sameL e2 s4) (t1.ext (Same.trans s0 s4)) ⟨p, _, rfl, upd_same, by show 2 ≤ 16000000; decide, .cons ⟨rfl, rfl⟩ (.cons (hv.to fun a kd xs e => s1 _ _ e) .nil)⟩
end
structure TextOk (d : Nat) (text : Str) (ls : List Str) (lst : Str) : Prop where
  sp : Txt.split text "\n" = ls ++ [lst]
  len : text.length ≤ 14000000
  num : NumSh ls
  deep : ∀ z ∈ ls, Txt.startswith z (ind (d + 1)) = false
theorem TextOk.ln {d : Nat} {text : Str} {ls : List Str} {lst : Str} (h : TextOk d text ls lst) : LnOk ls ∧ ls.length ≤ 14000001 ∧ lst.length ≤ 14000001 := by
  have h4 : szL (Txt.split text "\n") ≤ text.length + 1 := PyProof.Rows.split_weight text "\n" (by decide +kernel)
  have hl := h.len
  have h5 := szL_len (Txt.split text "\n")
  have h6 : (Txt.split text "\n").length = ls.length + 1 := by rw [h.sp, List.length_append]; rfl
  refine ⟨⟨fun z hz => ?_, by omega⟩, by omega, ?_⟩
  · have : z.length ≤ szL (Txt.split text "\n") := mem_szL (by rw [h.sp]; exact List.mem_append_left _ hz)
    omega
  · have : lst.length ≤ szL (Txt.split text "\n") := mem_szL (by rw [h.sp]; simp)
    omega
/-- the lines that the program reads -/
def linesP (ls : List Str) (lst : Str) : List Str := if lst = Str.empty then ls else ls ++ [lst ++ (" " : Str)]
theorem TextOk.lnP {d : Nat} {text : Str} {ls : List Str} {lst : Str} (h : TextOk d text ls lst) : LinesIn text (linesP ls lst) ∧ LnOk (linesP ls lst) := by
  obtain ⟨h1, h2, h3⟩ := h.ln
  refine ⟨⟨ls, lst, h.sp, rfl⟩, ?_⟩
  unfold linesP
  split
  · exact h1
  · have l1 : (" " : Str).length = 1 := by decide +kernel
    refine ⟨fun z hz => ?_, by rw [List.length_append, List.length_singleton]; omega⟩
    rcases List.mem_append.mp hz with hz | hz
    · exact h1.len z hz
    · rw [List.mem_singleton.mp hz, Str.length_append]
      omega
/-- what is due of a text -/
inductive Due (d : Nat) (ls : List Str) (lst : Str) : Prop
  | bad (e : Nat) (hd : ModsE ls (d + 1) 0 Str.empty e ∨ (lst ≠ Str.empty ∧ e = ls.length + 1 ∧ ∃ lib, RdMods ls (d + 1) 0 Str.empty lib)) (hp : ModsE (linesP ls lst) (d + 1) 0 Str.empty e) : Due d ls lst
  | good (lib : Lib) (hl : lst = Str.empty) (hd : RdMods ls (d + 1) 0 Str.empty lib) : Due d ls lst
theorem TextOk.due {d : Nat} {text : Str} {ls : List Str} {lst : Str} (h : TextOk d text ls lst) : Due d ls lst := by
  rcases mods_tot h.deep (Nat.le_refl _) (by omega) _ 0 Str.empty (Nat.le_refl _) (Nat.zero_le _) with ⟨lib, hd⟩ | ⟨e, hd⟩
  · by_cases hl : lst = Str.empty
    · exact .good lib hl hd
    · refine .bad _ (.inr ⟨hl, rfl, lib, hd⟩) ?_
      unfold linesP
      rw [if_neg hl]
      exact nl_mods (noLine_blank lst) hd (Nat.zero_le _)
  · refine .bad e (.inl hd) ?_
    unfold linesP
    split
    · exact hd
    · exact nl_modsE (noLine_blank lst) hd (Nat.zero_le _)
theorem DueAt.ext {H H' : Hp} {v : V} {od : Option DT} (h : DueAt H v od) (e : LamX.ExtN H H') : DueAt H' v od := by
  cases od with
  | none => exact h
  | some t => exact DtAt.to (fun a kd xs q => e _ _ q mkO_nt) h
def qnRight : Str := "_law_right.<locals>.<lambda>"
def spReadAll (C CT CP : Addr) (d : Nat) : Sp := fun vs H Q E => spProgramReadD C d vs H Q E ∨ spProgramReadT C CT d vs H Q E ∨ spProgramReadB C CP d vs H Q E
section
variable {P : PySem.Program} {w : World} {K : PySem.W.Frag} {mg : Str → Option Value} {base : Heap}
abbrev sLRight : Stmt := topS 58
theorem scLRight : FnScope ["_law_text_here", "_law_due_here", "_law_again"] ["_law_text_here"] (defScope sLRight) := ⟨rfl, rfl, rfl, by decide +kernel, rfl, by decide +kernel, by decide +kernel⟩
def spLRight (d : Nat) (T : List (Addr × Str)) : Sp := fun vs H Q _ => ∃ (text : Str) (ls : List Str) (lst : Str), vs = [.str text] ∧ TextOk d text ls lst ∧ LamX.Tabs T H ∧ ∀ H', LamX.ExtN H H' → LamX.Tabs T H' → Q (.bl true) H'
theorem ok_LRight {f C CP CT CW g c Pt pR gR : Addr} {mc : Value} {fd fdT fdR : FuncData} {k d : Nat} {T : List (Addr × Str)} (F : Fun K "_law_right" "_law_right" sLRight f fd) (hcode : fd.code = .ref c) (TB : LamX.TabB base mg c Pt) (hmT : (Pt, qnRight) ∈ T) (hu : ∀ p ∈ T, p.1 = Pt → p.2 = qnRight) (B : Bl mg) (hk : 20 + 2 * d ≤ k) (hd4 : d ≤ 400)
    (gLDue : Own P w K mg base (9 + d) "_law_due" ["_law_text_here"] (spLDue d)) (gLSame : Own P w K mg base 13 "_law_same" ["_law_found", "_law_due_here"] (spLSame 11)) (gLTold : Own P w K mg base 2 "_law_told" ["_law_program"] (spLTold C))
    (FT : Fun K "_law_tried" "_law_tried" sLTried g fdT) (mT : mg "_law_tried" = some (.ref g)) (bT : Binds K fdT ["_law_deed"] []) (TR : Tri3 P w K mg base CP CT CW)
    (mPg : mg "Program" = some (.ref C)) (CR : ClX.CRead K C mc) (CM : ClX.CMet K C mc "read" pR gR) (FE : FnOk P w K mg base (L2N.CX P w) (13 + 2 * d) gR fdR ["cls", "text"] (spReadAll C CT CP d)) (bE : Binds K fdR ["cls", "text"] []) : FnOk P w K mg base CX0 (k + 1) f fd ["_law_text_here"] (spLRight d T) := by
  refine Fun.okC F hcode scLRight (fun vs H Q E h => ?_) (fun A outer s H vs Q E hr h => ?_)
  · obtain ⟨t, ls, lst, rfl, _⟩ := h
    rfl
  obtain ⟨t, ls, lst, rfl, ok, tb, q⟩ := h
  obtain ⟨lok, lln, _⟩ := ok.ln
  obtain ⟨lin, lokP⟩ := ok.lnP
  have htl := ok.len
  refine ⟨_, (pss_cons (ps_set (i := 1) scLRight.nd rfl (by first | exact Or.inl rfl | exact Or.inr rfl) (pe_own gLDue (hr.mono (by omega)) (by rfl) (pa_cons (pv 0) pa_nil)))
      (pss_cons (ps_for PassesOwn.never rfl (pi_range1 (by rfl) B.range (pa_cons pe_int pa_nil)) (pg_name (i := 2) scLRight.nd rfl (by first | exact Or.inl rfl | exact Or.inr rfl)) (pss_one (ps_if (PW.pt (pw_and (pt_cmpR op_notN (pv 1) pe_non (nomark _)) (pw_and1 (pt_not (pt_val (pe_own gLSame (hr.mono (by omega)) (by rfl) (pa_cons (pe_tried3T qnRight (15 + 2 * d) FT mT bT TR TB hmT hu (by rfl) (by rfl) (hr.mono (by omega)) (by first | exact (show LamX.LamS (defScope sLRight) _ from LamX.lamS_by (by decide +kernel)) | exact LamX.lamS_by (by rfl)) (by rfl) (fun _ _ _ _ _ => by rfl) (fun A outer s H E f c' hr => by exact (pe_own gLTold (hr.mono (by omega)) (by rfl) (pa_cons (ClX.pe_cmeth (pe_glob (v := .ref C) (by rfl) mPg rfl) CR CM ((fn_N FE).raw bE .nil) (hr.mono (by omega)) (L2.passes_call lam_takes (fun _ _ _ _ h => h)) (pa_cons (pv 0) pa_nil)) pa_nil)))) (pa_cons (pv 1) pa_nil)))))))) (pss_one (ps_ret pe_bl)) pss_nil)))
      (pss_one (ps_ret pe_bl)))), ?_⟩
  have hlP : lst = Str.empty → linesP ls lst = ls := fun e => by unfold linesP; rw [if_pos e]
  obtain ⟨od, hod, hdue⟩ : ∃ od : Option DT, (od = none ∨ (∃ e, od = some (errT e) ∧ ModsE (linesP ls lst) (d + 1) 0 Str.empty e) ∨ (∃ lib z y, od = some (badT z y) ∧ RdMods (linesP ls lst) (d + 1) 0 Str.empty lib ∧ LibQ lib ∧ LibS lib ∧ firstM lib = some (z, y)) ∨ (∃ lib, od = some (goodT lib) ∧ RdMods (linesP ls lst) (d + 1) 0 Str.empty lib ∧ LibR lib ∧ LibS lib)) ∧
      ∀ Q : VK, (∀ H' v, Same H H' → DueAt H' v od → Q v H') → ((∃ e, (ModsE ls (d + 1) 0 Str.empty e ∨ (lst ≠ Str.empty ∧ e = ls.length + 1 ∧ ∃ lib, RdMods ls (d + 1) 0 Str.empty lib)) ∧ ∀ H' v, Same H H' → DtAt H' 11 v (errT e) → Q v H') ∨
        (lst = Str.empty ∧ ∃ lib, RdMods ls (d + 1) 0 Str.empty lib ∧ ∀ H' v, Same H H' → DueAt H' v (dueT d lib) → Q v H')) := by
    cases ok.due with
    | bad e hd hp => exact ⟨some (errT e), .inr (.inl ⟨e, rfl, hp⟩), fun Q h => .inl ⟨e, hd, fun H' v s1 hv => h H' v s1 hv⟩⟩
    | good lib hl hd =>
      refine ⟨dueT d lib, ?_, fun Q h => .inr ⟨hl, lib, hd, h⟩⟩
      rw [hlP hl]
      cases hw : withinB d lib with
      | false => exact .inl (by unfold dueT; rw [hw, if_neg Bool.false_ne_true])
      | true =>
        have lq := libQ_of (fun m hm => ((rdMods_facts hd).1 m hm).2) hw
        have lS := rdMods_S hd
        cases hf : firstM lib with
        | none => exact .inr (.inr (.inr ⟨lib, by unfold dueT; rw [hw, if_pos rfl, hf], hd, libR_ofQ lq lS hf, lS⟩))
        | some q => exact .inr (.inr (.inl ⟨lib, q.1, q.2, by unfold dueT; rw [hw, if_pos rfl, hf], hd, lq, lS, hf⟩))
  refine ⟨_, rfl, t, ls, lst, rfl, ok.sp, by omega, lok, by omega, ok.num, hd4, hdue _ fun H1 v s1 hv => ?_⟩
  refine ⟨_, rfl, by decide, by decide, ?_⟩
  refine for_it (walk_range (lo := 0) (n := (2 : Int).toNat)) (fun j σ H' => LamX.ExtN H1 H' ∧ LamX.Tabs T H' ∧ ∃ v2, σ = [some (.str t), some v, v2])
    ⟨LamX.ExtN.refl _, tb.ext s1, _, rfl⟩ (fun _ _ _ _ _ => trivial) ?_ ?_
  · rintro i x σ H3 H4 hi ⟨e3, t3, v2, rfl⟩ ⟨rfl, hx⟩
    have hv3 := hv.ext e3
    have again : ∀ H9 v2, LamX.ExtN H4 H9 → LamX.Tabs T H9 → LamX.ExtN H1 H9 ∧ LamX.Tabs T H9 ∧ ∃ v2', ([some (.str t), some v, some v2] : St) = [some (.str t), some v, v2'] := fun H9 v2 e t9 => ⟨e3.trans e, t9, _, rfl⟩
    rcases hod with rfl | ⟨e, rfl, he⟩ | ⟨lib, z, y, rfl, hrd, lq, lS, hfm⟩ | ⟨lib, rfl, hrd, lr, lS⟩
    · obtain rfl : v = .non := hv3
      refine ⟨_, rfl, rfl, _, rfl, ?_⟩
      rw [decide_eq_true (rfl : V.non = V.non)]
      exact again _ _ (LamX.ExtN.refl _) t3
    · have hvn : v ≠ .non := fun z => by subst z; obtain ⟨a, xs, e1, _⟩ := hv3; cases e1
      refine ⟨_, rfl, rfl, _, rfl, ?_⟩
      rw [decide_eq_false hvn]
      refine tried_text (e := e) t3 (fun H2 R E e2 xb => ?_) fun H' p e5 t5 hp => ?_
      · exact ⟨rfl, _, rfl, .inr (.inl ⟨t, _, e, rfl, lin, by omega, lokP, by omega, he, xb⟩)⟩
      · exact ⟨_, rfl, _, _, _, rfl, hp, hv3.ext e5, fun H9 s9 => ⟨_, rfl, again _ _ (e5.trans (LamX.ExtN.of s9)) (t5.ext s9)⟩⟩
    · have hvn : v ≠ .non := fun z => by subst z; obtain ⟨a, xs, e1, _⟩ := hv3; cases e1
      refine ⟨_, rfl, rfl, _, rfl, ?_⟩
      rw [decide_eq_false hvn]
      refine tried_prog (z := z) (y := y) (firstM_len hfm) t3 (fun H2 R E e2 xb => ?_) fun H' p e5 t5 hp => ?_
      · exact ⟨rfl, _, rfl, .inr (.inr ⟨t, _, lib, z, y, rfl, lin, by omega, lokP, by omega, hrd, lq, lS, hfm, xb⟩)⟩
      · exact ⟨_, rfl, _, _, _, rfl, hp, hv3.ext e5, fun H9 s9 => ⟨_, rfl, again _ _ (e5.trans (LamX.ExtN.of s9)) (t5.ext s9)⟩⟩
    · have hvn : v ≠ .non := fun z => by subst z; obtain ⟨a, xs, e1, _⟩ := hv3; cases e1
      refine ⟨_, rfl, rfl, _, rfl, ?_⟩
      rw [decide_eq_false hvn]
      refine tried_told (t := toldT lib) t3 (fun H2 R E e2 xb => ?_) fun H' p e5 t5 hp => ?_
      · refine ⟨rfl, _, rfl, .inl ⟨t, _, lib, rfl, lin, by omega, lokP, by omega, hrd, lr, fun H5 x dx rd sl lib2 s5 nx hP hperm hsrt nr nsl => ?_⟩⟩
        obtain rfl : lib2 = lib := libs_eq hperm (List.Perm.refl _) hsrt lS.srt lS.nd
        exact ⟨_, _, _, _, lib2, _, rfl, hP, lr, fun H6 l s6 nl hl => xb _ _ (Same.trans s5 s6) hl⟩
      · exact ⟨_, rfl, _, _, _, rfl, hp, hv3.ext e5, fun H9 s9 => ⟨_, rfl, again _ _ (e5.trans (LamX.ExtN.of s9)) (t5.ext s9)⟩⟩
  · rintro σ H9 ⟨e9, t9, v2, rfl⟩
    exact (q _ ((LamX.ExtN.of s1).trans e9) t9)
end
end Ft
set_option Elab.async false
set_option linter.all false
set_option maxRecDepth 100000
set_option maxHeartbeats 1000000
namespace Ft
open PySem L2 TL
/-- every run of p-signs in l is no longer than N -/
def Run (p : Nat → Bool) (N : Nat) (l : List Nat) : Prop := ∀ x, x <:+: l → (∀ c ∈ x, p c = true) → x.length ≤ N
section
variable {p : Nat → Bool} {N M : Nat} {l r x : List Nat}
theorem Run.inf (h : Run p N l) (i : x <:+: l) : Run p N x := fun y hy hp => h y (hy.trans i) hp
theorem Run.mono (h : Run p N l) (hl : N ≤ M) : Run p M l := fun y hy hp => Nat.le_trans (h y hy hp) hl
theorem Run.len (h : l.length ≤ N) : Run p N l := fun y hy _ => Nat.le_trans hy.length_le h
theorem Run.none (h : ∀ c ∈ l, p c = false) : Run p 0 l := fun y hy hp => by
  cases y with
  | nil => exact Nat.le_refl _
  | cons c y =>
    have h1 := hp c (by simp)
    rw [h c (hy.subset (by simp))] at h1
    cases h1
theorem inf_app (h : x <:+: l ++ r) : x <:+: l ∨ x <:+: r ∨ ∃ a b, x = a ++ b ∧ a <:+: l ∧ b <+: r := by
  obtain ⟨s, t, e⟩ := h
  rw [List.append_assoc] at e
  rcases List.append_eq_append_iff.mp e with ⟨a', e1, e2⟩ | ⟨c', e1, e2⟩
  · rcases List.append_eq_append_iff.mp e2 with ⟨a2, e3, e4⟩ | ⟨c2, e3, e4⟩
    · exact .inl ⟨s, a2, by rw [e1, e3, List.append_assoc]⟩
    · exact .inr (.inr ⟨a', c2, e3, ⟨s, [], by rw [e1, List.append_nil]⟩, ⟨t, e4.symm⟩⟩)
  · exact .inr (.inl ⟨c', t, by rw [e2, List.append_assoc]⟩)
theorem Run.app (h1 : Run p N l) (h2 : Run p M r) : Run p (N + M) (l ++ r) := fun y hy hp => by
  rcases inf_app hy with i | i | ⟨a, b, rfl, i, j⟩
  · exact Nat.le_trans (h1 y i hp) (by omega)
  · exact Nat.le_trans (h2 y i hp) (by omega)
  · have e1 := h1 a i fun c hc => hp c (by simp [hc])
    have e2 := h2 b j.isInfix fun c hc => hp c (by simp [hc])
    rw [List.length_append]
    omega
theorem Run.sep {c : Nat} (hc : p c = false) (h1 : Run p N l) (h2 : Run p N r) : Run p N (l ++ c :: r) := fun y hy hp => by
  rcases inf_app hy with i | i | ⟨a, b, rfl, i, j⟩
  · exact h1 y i hp
  · rcases List.infix_cons_iff.mp i with i | i
    · cases y with
      | nil => exact Nat.zero_le _
      | cons z y =>
        obtain ⟨t, e⟩ := i
        obtain rfl : z = c := (List.cons.inj e).1
        have := hp z (by simp)
        rw [hc] at this
        cases this
    · exact h2 y i hp
  · cases b with
    | nil => rw [List.append_nil] at hp ⊢; exact h1 a i hp
    | cons z b =>
      obtain ⟨t, e⟩ := j
      obtain rfl : z = c := (List.cons.inj e).1
      have := hp z (by simp)
      rw [hc] at this
      cases this
theorem run_joinL {c : Nat} (hc : p c = false) : ∀ {zs : List (List Nat)}, (∀ z ∈ zs, Run p N z) → Run p N (joinL [c] zs)
  | [], _ => Run.len (Nat.zero_le _)
  | [a], h => h a (by simp)
  | a :: b :: zs, h => (h a (by simp)).sep hc (run_joinL hc (zs := b :: zs) fun z hz => h z (by simp [hz]))
end
/-- one sign between parts without any -/
theorem run_one {p : Nat → Bool} {c : Nat} : ∀ {zs : List (List Nat)}, (∀ z ∈ zs, z ≠ [] ∧ ∀ x ∈ z, p x = false) → Run p 1 (joinL [c] zs) ∧ (∀ b ∈ zs.head?, ∃ x t, joinL [c] zs = x :: t ∧ p x = false)
  | [], _ => ⟨Run.len (Nat.zero_le _), fun b h => by cases h⟩
  | [a], h => by
    obtain ⟨h1, h2⟩ := h a (by simp)
    refine ⟨(Run.none h2).mono (by omega), fun b _ => ?_⟩
    cases a with
    | nil => exact absurd rfl h1
    | cons x t => exact ⟨x, t, rfl, h2 x (by simp)⟩
  | a :: b :: zs, h => by
    obtain ⟨h1, h2⟩ := h a (by simp)
    obtain ⟨i1, i2⟩ := run_one (c := c) (zs := b :: zs) fun z hz => h z (by simp [hz])
    obtain ⟨x, t, e, hx⟩ := i2 b rfl
    have e1 : joinL [c] (a :: b :: zs) = a ++ ([c] ++ joinL [c] (b :: zs)) := rfl
    have r1 : Run p 1 ([c] ++ joinL [c] (b :: zs)) := by
      rw [e] at i1 ⊢
      exact (Run.len (Nat.le_refl _)).sep hx (i1.inf ⟨[x], [], by simp⟩)
    rcases List.eq_nil_or_concat a with rfl | ⟨a0, y, ea⟩
    rotate_left
    rw [List.concat_eq_append] at ea
    subst ea
    rotate_left
    · exact absurd rfl h1
    · rw [e1]
      refine ⟨?_, fun _ _ => ?_⟩
      · rw [List.append_assoc, List.singleton_append]
        exact ((Run.none fun q hq => h2 q (by simp [hq])).mono (by omega)).sep (h2 y (by simp)) r1
      · cases a0 with
        | nil => exact ⟨y, _, rfl, h2 y (by simp)⟩
        | cons q a0 => exact ⟨q, _, rfl, h2 q (by simp)⟩
def isSp (c : Nat) : Bool := decide (c = 32)
def isDg (c : Nat) : Bool := decide (48 ≤ c) && decide (c ≤ 57)
theorem noBl {l : List Nat} (h : l.all (fun c => decide (33 ≤ c)) = true) : ∀ c ∈ l, isSp c = false := fun c hc => by
  have := of_decide_eq_true (List.all_eq_true.mp h c hc)
  exact decide_eq_false (by omega)
/-- few blanks and few digits stand side by side -/
structure Fit (b d : Nat) (l : List Nat) : Prop where
  bl : Run isSp b l
  dg : Run isDg d l
theorem Fit.inf {b d : Nat} {l x : List Nat} (h : Fit b d l) (i : x <:+: l) : Fit b d x := ⟨h.bl.inf i, h.dg.inf i⟩
theorem Fit.mono {b d b2 d2 : Nat} {l : List Nat} (h : Fit b d l) (h1 : b ≤ b2) (h2 : d ≤ d2) : Fit b2 d2 l := ⟨h.bl.mono h1, h.dg.mono h2⟩
theorem Fit.app {b d b2 d2 : Nat} {l r : List Nat} (h : Fit b d l) (h2 : Fit b2 d2 r) : Fit (b + b2) (d + d2) (l ++ r) := ⟨h.bl.app h2.bl, h.dg.app h2.dg⟩
theorem Fit.len {b d : Nat} {l : List Nat} (h : l.length ≤ b) (h2 : l.length ≤ d) : Fit b d l := ⟨Run.len h, Run.len h2⟩
theorem fit_one (c : Nat) : Fit 1 1 [c] := Fit.len (Nat.le_refl _) (Nat.le_refl _)
theorem fit_ind (n : Nat) : Fit (2 * n) 0 (tl (ind n)) := by
  rw [tl_ind]
  refine ⟨Run.len (by simp), Run.none fun c hc => ?_⟩
  rw [(List.mem_replicate.mp hc).2]
  decide
theorem fit_head {d n : Nat} {wi : Bool} {r : Row} (h : RowOk d wi r) : Fit (2 * n + 1) 8 (tl (headL n r)) := by
  unfold headL
  rw [tl_append]
  have sp : isDg 32 = false := by decide
  have f : Fit 1 8 (tl (Txt.join " " (rowWord r :: words r))) := by
    rw [join_eq, tl_join, tl_space]
    refine ⟨(run_one fun z hz => ?_).1, run_joinL sp fun z hz => ?_⟩
    · obtain ⟨u, hu, rfl⟩ := List.mem_map.mp hz
      obtain ⟨h1, h2⟩ := words_clean h u hu
      exact ⟨fun e => (by rw [e] at h2; cases h2), noBl h1⟩
    · obtain ⟨u, hu, rfl⟩ := List.mem_map.mp hz
      exact Run.len ((words_shy h).1 u hu).1
  exact ((fit_ind n).app f).mono (Nat.le_refl _) (by omega)
theorem fit_nothing (n : Nat) : Fit (2 * n + 1) 8 (tl (ind n ++ ("nothing" : Str))) := by
  rw [tl_append]
  have f : Fit 0 0 (tl ("nothing" : Str)) := ⟨Run.none (by decide +kernel), Run.none (by decide +kernel)⟩
  exact ((fit_ind n).app f).mono (by omega) (by omega)
theorem fit_else (n : Nat) : Fit (2 * n + 1) 8 (tl (ind n ++ ("else" : Str))) := by
  rw [tl_append]
  have f : Fit 0 0 (tl ("else" : Str)) := ⟨Run.none (by decide +kernel), Run.none (by decide +kernel)⟩
  exact ((fit_ind n).app f).mono (by omega) (by omega)
theorem fit_linesB {m d n : Nat} {rs : List Row} (hm : n ≤ m) (h : ∀ r ∈ rs, ∀ z ∈ linesR d n r, Fit (2 * m + 1) 8 (tl z)) : ∀ z ∈ linesB d n rs, Fit (2 * m + 1) 8 (tl z) := fun z hz => by
  unfold linesB at hz
  split at hz
  · rw [List.mem_singleton.mp hz]; exact (fit_nothing n).mono (by omega) (Nat.le_refl _)
  · obtain ⟨r, hr, hz⟩ := List.mem_flatMap.mp hz
    exact h r hr z hz
theorem fit_linesR : ∀ {d n m : Nat} {wi : Bool} {r : Row}, n + d ≤ m → RowOk d wi r → ∀ z ∈ linesR d n r, Fit (2 * m + 1) 8 (tl z) := by
  intro d
  induction d with
  | zero =>
    intro n m wi r hm h z hz
    rw [List.mem_singleton.mp hz]
    exact (fit_head h).mono (by omega) (Nat.le_refl _)
  | succ d ih =>
    intro n m wi r hm h z hz
    rw [linesR_eq h] at hz
    rcases List.mem_cons.mp hz with e | hz
    · rw [e]; exact (fit_head h).mono (by omega) (Nat.le_refl _)
    · obtain ⟨q, hq, hz⟩ := List.mem_flatMap.mp hz
      obtain ⟨e, he, _, hr⟩ := blk_ok h (mem_zipIdx_fst hq)
      obtain rfl : d = e := Nat.succ.inj he
      rcases List.mem_append.mp hz with hz | hz
      · unfold elseL at hz
        split at hz
        · rw [List.mem_singleton.mp hz]; exact (fit_else n).mono (by omega) (Nat.le_refl _)
        · cases hz
      · exact fit_linesB (by omega) (fun r hr' => ih (by omega) (hr r hr')) z hz
theorem fit_mod {m : Str × List Row} (hw : isW m.1 = true) (hr : ∀ r ∈ m.2, RowOk 3 false r) : ∀ z ∈ modL m, Fit 9 8 (tl z) := fun z hz => by
  rcases List.mem_cons.mp hz with e | hz
  · rw [e, tl_append]
    have f : Fit 7 0 (tl ("module " : Str)) := ⟨Run.len (by decide +kernel), Run.none (by decide +kernel)⟩
    obtain ⟨h1, _, h3⟩ := word_signs hw
    exact (f.app ⟨Run.none (noBl h1), Run.len h3⟩).mono (by omega) (by omega)
  · exact fit_linesB (m := 4) (by omega) (fun r h => fit_linesR (by omega) (hr r h)) z hz
theorem fit_joinNl {b d : Nat} {ls : List Str} (h : ∀ z ∈ ls, Fit b d (tl z)) : Fit b d (tl (Txt.join Str.empty (ls.map fun z => z ++ ("\n" : Str)))) := by
  rw [join_eq, tl_join]
  have e : tl Str.empty = [] := rfl
  rw [e, join_nl]
  have h2 : ∀ z ∈ (ls ++ [Str.empty]).map tl, Fit b d z := fun z hz => by
    obtain ⟨u, hu, rfl⟩ := List.mem_map.mp hz
    rcases List.mem_append.mp hu with hu | hu
    · exact h u hu
    · rw [List.mem_singleton.mp hu]
      exact Fit.len (Nat.zero_le _) (Nat.zero_le _)
  exact ⟨run_joinL (by decide) fun z hz => (h2 z hz).bl, run_joinL (by decide) fun z hz => (h2 z hz).dg⟩
theorem fit_text {lib : Lib} (hw : ∀ m ∈ lib, isW m.1 = true) (hr : ∀ m ∈ lib, ∀ r ∈ m.2, RowOk 3 false r) : Fit 9 8 (tl (textL lib)) := by
  unfold textL
  refine fit_joinNl fun z hz => ?_
  obtain ⟨m, hm, hz⟩ := List.mem_flatMap.mp hz
  exact fit_mod (hw m hm) (hr m hm) z hz
theorem inf_joinL {S : List Nat} {z : List Nat} : ∀ {zs : List (List Nat)}, z ∈ zs → z <:+: joinL S zs
  | [a], h => by rw [List.mem_singleton.mp h]; exact List.infix_rfl
  | a :: b :: zs, h => by
    show z <:+: a ++ (S ++ joinL S (b :: zs))
    rcases List.mem_cons.mp h with rfl | h
    · exact ⟨[], _, rfl⟩
    · obtain ⟨s, t, e⟩ := inf_joinL (S := S) h
      exact ⟨a ++ (S ++ s), t, by rw [← e]; simp⟩
theorem inf_split {x y z : Str} (h : z ∈ Txt.split x y) : tl z <:+: tl x := by
  have e := StrLaws.join_split x y
  have := inf_joinL (S := tl y) (List.mem_map.mpr ⟨z, h, rfl⟩ : tl z ∈ (Txt.split x y).map tl)
  rw [← tl_join, e] at this
  exact this
theorem inf_cut (z : Str) (lo hi : Option Int) : tl (cutS z lo hi) <:+: tl z := by
  unfold cutS
  rw [tl_mk]
  exact (List.take_prefix _ _).isInfix.trans (List.drop_suffix _ _).isInfix
theorem textOk_of {d : Nat} {text : Str} (hl : text.length ≤ 14000000) (h : Fit (2 * d + 1) 639 (tl text)) : ∃ ls lst, TextOk d text ls lst := by
  rcases List.eq_nil_or_concat (Txt.split text "\n") with e | ⟨ls, lst, e⟩
  rotate_left
  rw [List.concat_eq_append] at e
  rotate_left
  · obtain ⟨w, ps, e2⟩ := split_some text "\n"
    rw [e2] at e
    cases e
  · refine ⟨ls, lst, e, hl, fun z hz n p hp hw => ?_, fun z hz => ?_⟩
    · have i1 : tl z <:+: tl text := inf_split (y := "\n") (by rw [e]; simp [hz])
      have i2 : tl p <:+: tl text := ((inf_split hp).trans (inf_cut z _ _)).trans i1
      obtain ⟨c, cs, hd, ep⟩ := wr_cases hw
      have hd2 : ∀ x ∈ c :: cs, isDg x = true := fun x hx => by
        have := hd x hx
        unfold isDg
        rw [decide_eq_true this.1, decide_eq_true this.2]
        rfl
      have lp : p.length = (tl p).length := (len_tl p)
      rcases ep with ep | ep
      · have := h.dg (c :: cs) (by rw [← ep]; exact i2) hd2
        rw [lp, ep]
        omega
      · have := h.dg (c :: cs) (List.IsInfix.trans (⟨[45], [], by rw [ep]; simp⟩ : (c :: cs) <:+: tl p) i2) hd2
        rw [lp, ep, List.length_cons]
        omega
    · have i1 : tl z <:+: tl text := inf_split (y := "\n") (by rw [e]; simp [hz])
      cases hs : Txt.startswith z (ind (d + 1)) with
      | false => rfl
      | true =>
        rw [starts_pre, tl_ind] at hs
        obtain ⟨r, er⟩ := pre_iff.mp hs
        have := h.bl (List.replicate (2 * (d + 1)) 32) (List.IsInfix.trans (⟨[], r, by rw [er]; rfl⟩ : List.replicate (2 * (d + 1)) 32 <:+: tl z) i1) fun c hc => by
          rw [(List.mem_replicate.mp hc).2]
          decide
        rw [List.length_replicate] at this
        omega
end Ft
set_option Elab.async false
set_option linter.all false
set_option maxRecDepth 100000
set_option maxHeartbeats 1000000
set_option pp.maxSteps 3000
set_option pp.deepTerms.threshold 8
namespace Ft
open PySem L2 TL
theorem tl_cutTailN {z : Str} {k : Nat} : tl (cutS z (some (k : Int)) none) = (tl z).drop k := by
  by_cases h : k ≤ (tl z).length
  · exact tl_cutTail h
  · unfold cutS
    rw [tl_mk, HT.sIx_nat, HT.sIx_none, len_tl z, Nat.min_eq_right (by omega), Nat.sub_self, List.take_zero, List.drop_eq_nil_of_le (by omega)]
theorem cutH_len (z : Str) (k : Nat) : (cutS z none (some (k : Int))).length = min k z.length := by
  rw [len_tl, tl_cutHeadN, List.length_take, ← len_tl]
theorem cutT_len (z : Str) (k : Nat) : (cutS z (some (k : Int)) none).length = z.length - k := by
  rw [len_tl, tl_cutTailN, List.length_drop, ← len_tl]
/-- after i changes -/
def FitE (i : Nat) (l : List Nat) : Prop := Fit (10 * 2 ^ i - 1) (9 * 2 ^ i - 1) l
theorem FitE.cut {i : Nat} {l x y : List Nat} (h : FitE i l) (hx : x <:+: l) (hy : y <:+: l) : FitE (i + 1) (x ++ y) := by
  have hp : 1 ≤ 2 ^ i := Nat.one_le_two_pow
  have e : 2 ^ (i + 1) = 2 ^ i * 2 := Nat.pow_succ ..
  refine (Fit.app (Fit.inf h hx) (Fit.inf h hy)).mono ?_ ?_ <;> omega
theorem FitE.put {i c : Nat} {l x y : List Nat} (h : FitE i l) (hx : x <:+: l) (hy : y <:+: l) : FitE (i + 1) (x ++ [c] ++ y) := by
  have hp : 1 ≤ 2 ^ i := Nat.one_le_two_pow
  have e : 2 ^ (i + 1) = 2 ^ i * 2 := Nat.pow_succ ..
  refine (Fit.app (Fit.app (Fit.inf h hx) (fit_one c)) (Fit.inf h hy)).mono ?_ ?_ <;> omega
section
variable {P : PySem.Program} {w : World} {K : PySem.W.Frag} {mg : Str → Option Value} {base : Heap}
abbrev sLSpoilt : Stmt := topS 59
theorem scLSpoilt : FnScope ["_law_source_here", "_law_text_here", "_law_signs", "_law_k", "_law_at", "_law_sign", "_law_way", "_law_end"] ["_law_source_here", "_law_text_here"] (defScope sLSpoilt) := ⟨rfl, rfl, rfl, by decide +kernel, rfl, by decide +kernel, by decide +kernel⟩
def spLSpoilt : Sp := fun vs H Q _ => ∃ (a : Addr) (n : Int) (text : Str), vs = [.ref a, .str text] ∧ Src H a n ∧ n < 2 ^ 39 ∧ text.length ≤ 7000000 ∧ Fit 9 8 (tl text) ∧
  ∀ H' t2 n', Fr (· ≠ a) H H' → Src H' a n' → n' ≤ n + 40 → t2.length ≤ 7000004 → Fit 159 143 (tl t2) → Q (.str t2) H'
theorem ok_LSpoilt {f : Addr} {fd : FuncData} {k : Nat} (F : Fun K "_law_spoilt" "_law_spoilt" sLSpoilt f fd) (B : Bl mg) (hk : 1 ≤ k) (gLDraw : Own P w K mg base 1 "_law_draw" ["_law_source_here", "_law_many"] spLDraw) : FnOk P w K mg base CX0 (k + 1) f fd ["_law_source_here", "_law_text_here"] spLSpoilt := by
  refine F.ok scLSpoilt (fun vs H Q E h => ?_) (fun cdv A outer s H vs Q E hr h => ?_)
  · obtain ⟨a, n, t, rfl, _⟩ := h
    rfl
  obtain ⟨a, n, t, rfl, hs, hn, hl, fit, q⟩ := h
  refine ⟨_, (pss_cons (ps_set (i := 2) scLSpoilt.nd rfl (by first | exact Or.inl rfl | exact Or.inr rfl) pe_str)
      (pss_cons (ps_for PassesOwn.never rfl (pi_range1 (by rfl) B.range (pa_cons (pe_own gLDraw (hr.mono (by omega)) (by rfl) (pa_cons (pv 0) (pa_cons pe_int pa_nil))) pa_nil)) (pg_name (i := 3) scLSpoilt.nd rfl (by first | exact Or.inl rfl | exact Or.inr rfl)) (pss_cons (ps_par (i := 4) (j := 5) (by rfl) scLSpoilt.nd rfl rfl (by decide) rfl rfl (pa_cons (pe_own gLDraw (hr.mono (by omega)) (by rfl) (pa_cons (pv 0) (pa_cons (pe_op op_add (pe_callB call_len_str (by rfl) B.len (by decide +kernel) (pa_cons (pv 1) pa_nil)) pe_int) pa_nil))) (pa_cons (pe_ix ix_str (pv 2) (pe_own gLDraw (hr.mono (by omega)) (by rfl) (pa_cons (pv 0) (pa_cons (pe_callB call_len_str (by rfl) B.len (by decide +kernel) (pa_cons (pv 2) pa_nil)) pa_nil))) (fun _ _ => rfl)) pa_nil)) (by rfl))
      (pss_cons (ps_set (i := 6) scLSpoilt.nd rfl (by first | exact Or.inl rfl | exact Or.inr rfl) (pe_own gLDraw (hr.mono (by omega)) (by rfl) (pa_cons (pv 0) (pa_cons pe_int pa_nil))))
      (pss_one (ps_if (pt_cmpR op_eq (pv 6) pe_int (nomark _)) (pss_one (ps_set (i := 1) scLSpoilt.nd rfl (by first | exact Or.inl rfl | exact Or.inr rfl) (pe_op op_add_str (pe_slice sl_str (pv 1) po_none (po_some (pv 4))) (pe_slice sl_str (pv 1) (po_some (pe_op op_add (pv 4) pe_int)) po_none)))) (pss_one (ps_if (pt_cmpR op_eq (pv 6) pe_int (nomark _)) (pss_one (ps_set (i := 1) scLSpoilt.nd rfl (by first | exact Or.inl rfl | exact Or.inr rfl) (pe_op op_add_str (pe_op op_add_str (pe_slice sl_str (pv 1) po_none (po_some (pv 4))) (pv 5)) (pe_slice sl_str (pv 1) (po_some (pv 4)) po_none)))) (pss_one (ps_if (pt_cmpR op_eq (pv 6) pe_int (nomark _)) (pss_one (ps_set (i := 1) scLSpoilt.nd rfl (by first | exact Or.inl rfl | exact Or.inr rfl) (pe_op op_add_str (pe_op op_add_str (pe_slice sl_str (pv 1) po_none (po_some (pv 4))) (pv 5)) (pe_slice sl_str (pv 1) (po_some (pe_op op_add (pv 4) pe_int)) po_none)))) (pss_cons (ps_set (i := 7) scLSpoilt.nd rfl (by first | exact Or.inl rfl | exact Or.inr rfl) (pe_op op_add (pv 4) (pe_own gLDraw (hr.mono (by omega)) (by rfl) (pa_cons (pv 0) (pa_cons pe_int pa_nil)))))
      (pss_one (ps_set (i := 1) scLSpoilt.nd rfl (by first | exact Or.inl rfl | exact Or.inr rfl) (pe_op op_add_str (pe_slice sl_str (pv 1) po_none (po_some (pv 4))) (pe_slice sl_str (pv 1) (po_some (pv 7)) po_none))))))))))))))
      (pss_one (ps_ret (pe_ifExp (pt_cmpR op_eq (pe_own gLDraw (hr.mono (by omega)) (by rfl) (pa_cons (pv 0) (pa_cons pe_int pa_nil))) pe_int (nomark _)) (pe_slice sl_str (pv 1) po_none (po_some (pe_own gLDraw (hr.mono (by omega)) (by rfl) (pa_cons (pv 0) (pa_cons (pe_op op_add (pe_callB call_len_str (by rfl) B.len (by decide +kernel) (pa_cons (pv 1) pa_nil)) pe_int) pa_nil))))) (pv 1)))))), ?_⟩
  have sl : sizeLine ≥ 16777216 := by decide
  refine ⟨_, rfl, a, 5, n, rfl, hs, by omega, by decide, by decide, fun H1 j f1 s1 j0 j1 => ?_⟩
  refine ⟨j, rfl, by omega, by omega, ?_⟩
  refine for_it (walk_range (lo := 0) (n := j.toNat)) (fun i σ H' => ∃ n' t2 v3 v4 v5 v6 v7, σ = [some (.ref a), some (.str t2), some (.str (" \n\tazAZ019-+._elsnothingmdur{")), v3, v4, v5, v6, v7] ∧ Fr (· ≠ a) H H' ∧ Src H' a n' ∧ n' ≤ n + 1 + 4 * i ∧ t2.length ≤ 7000000 + i ∧ FitE i (tl t2))
    ⟨n + 1, t, _, _, _, _, _, rfl, f1, s1, by omega, by omega, fit⟩ (fun _ _ _ _ _ => trivial) ?_ ?_
  · rintro i x σ H2 H3 hi ⟨n', t2, v3, v4, v5, v6, v7, rfl, f2, s2, hn2, hl2, fe⟩ ⟨rfl, hx⟩
    have i3 : i ≤ 3 := by omega
    refine ⟨_, rfl, _, rfl, t2, rfl, by omega, _, _, rfl, rfl, a, _, n', rfl, s2, by omega, by omega, by omega, fun H4 at1 f4 s4 a0 a1 => ?_⟩
    have sgl : (" \n\tazAZ019-+._elsnothingmdur{" : Str).length = 29 := by decide +kernel
    refine ⟨_, rfl, _, rfl, _, rfl, _, rfl, by omega, a, _, n' + 1, rfl, s4, by omega, by omega, by omega, fun H5 sg1 f5 s5 b0 b1 => ?_⟩
    obtain ⟨p, rfl⟩ : ∃ p : Nat, at1 = (p : Nat) := ⟨at1.toNat, by omega⟩
    obtain ⟨g, rfl⟩ : ∃ g : Nat, sg1 = (g : Nat) := ⟨sg1.toNat, by omega⟩
    obtain ⟨c, hc⟩ : ∃ c, (" \n\tazAZ019-+._elsnothingmdur{" : Str).cps.toList[g]? = some c := by
      have : g < (tl (" \n\tazAZ019-+._elsnothingmdur{" : Str)).length := by rw [← len_tl]; omega
      exact ⟨_, List.getElem?_eq_getElem this⟩
    have f5' : Fr (· ≠ a) H H5 := (f2.trans f4).trans f5
    refine ⟨_, _, c, rfl, rfl, by omega, atI_nat hc, _, _, rfl, ?_⟩
    refine ⟨_, rfl, a, 4, _, rfl, s5, by omega, by decide, by decide, fun H6 wy f6 s6 w0 w1 => ?_⟩
    have f6' : Fr (· ≠ a) H H6 := f5'.trans f6
    have hH := cutH_len t2 p
    have hT := cutT_len t2 p
    have hT1 := cutT_len t2 (p + 1)
    have hc1 : (⟨#[c]⟩ : Str).length = 1 := rfl
    have ic : ∀ lo hi, tl (cutS t2 lo hi) <:+: tl t2 := inf_cut t2
    have cat : ∀ x y : Str, (x ++ y).length = x.length + y.length := Str.length_append
    have ec : ((p : Int) + 1) = ((p + 1 : Nat) : Int) := rfl
    refine ⟨_, rfl, rfl, _, rfl, ite2 (fun e => ?_) (fun e => ?_)⟩
    · refine ⟨_, rfl, _, rfl, _, rfl, _, rfl, by omega, _, rfl, _, rfl, _, _, rfl, rfl, _, rfl, _, rfl, by omega, _, _, rfl, rfl, ?_, ?_⟩
      · rw [ec]; omega
      · refine ⟨_, _, _, _, _, _, _, rfl, f6', s6, by omega, ?_, ?_⟩
        · rw [cat, ec]; omega
        · rw [tl_append]; exact fe.cut (ic _ _) (ic _ _)
    refine ⟨_, rfl, rfl, _, rfl, ite2 (fun e => ?_) (fun e => ?_)⟩
    · refine ⟨_, rfl, _, rfl, _, rfl, _, rfl, by omega, _, rfl, _, _, rfl, rfl, by omega, _, rfl, _, rfl, _, rfl, _, rfl, by omega, _, _, rfl, rfl, ?_, ?_⟩
      · rw [cat]; omega
      · refine ⟨_, _, _, _, _, _, _, rfl, f6', s6, by omega, ?_, ?_⟩
        · rw [cat, cat]; omega
        · rw [tl_append, tl_append]; exact fe.put (ic _ _) (ic _ _)
    refine ⟨_, rfl, rfl, _, rfl, ite2 (fun e => ?_) (fun e => ?_)⟩
    · refine ⟨_, rfl, _, rfl, _, rfl, _, rfl, by omega, _, rfl, _, _, rfl, rfl, by omega, _, rfl, _, rfl, _, _, rfl, rfl, _, rfl, _, rfl, by omega, _, _, rfl, rfl, ?_, ?_⟩
      · rw [cat, ec]; omega
      · refine ⟨_, _, _, _, _, _, _, rfl, f6', s6, by omega, ?_, ?_⟩
        · rw [cat, cat, ec]; omega
        · rw [tl_append, tl_append]; exact fe.put (ic _ _) (ic _ _)
    refine ⟨_, rfl, _, rfl, a, 12, _, rfl, s6, by omega, by decide, by decide, fun H7 y f7 s7 y0 y1 => ?_⟩
    obtain ⟨y, rfl⟩ : ∃ p : Nat, y = (p : Nat) := ⟨y.toNat, by omega⟩
    have ey : ((p : Int) + (y : Nat)) = ((p + y : Nat) : Int) := by omega
    have hT2 := cutT_len t2 (p + y)
    refine ⟨_, _, rfl, rfl, _, rfl, _, rfl, _, rfl, _, rfl, by omega, _, rfl, _, rfl, _, rfl, _, rfl, by omega, _, _, rfl, rfl, ?_, ?_⟩
    · rw [ey]; omega
    · refine ⟨_, _, _, _, _, _, _, rfl, f6'.trans f7, s7, by omega, ?_, ?_⟩
      · rw [cat, ey]; omega
      · rw [tl_append]; exact fe.cut (ic _ _) (ic _ _)
  · rintro σ H2 ⟨n', t2, v3, v4, v5, v6, v7, rfl, f2, s2, hn2, hl2, fe⟩
    have i3 : j.toNat ≤ 4 := by omega
    refine ⟨_, rfl, a, 6, n', rfl, s2, by omega, by decide, by decide, fun H3 c f3 s3 c0 c1 => ?_⟩
    have hB : FitE 4 (tl t2) := Fit.mono fe (by have := Nat.pow_le_pow_right (n := 2) (by omega) i3; omega) (by have := Nat.pow_le_pow_right (n := 2) (by omega) i3; omega)
    have fr : Fr (· ≠ a) H H3 := f2.trans f3
    refine ⟨rfl, _, rfl, ite2 (fun e => ?_) (fun e => ?_)⟩
    · refine ⟨_, rfl, _, rfl, _, rfl, _, rfl, by omega, _, _, rfl, rfl, a, _, _, rfl, s3, by omega, by omega, by omega, fun H4 p f4 s4 p0 p1 => ⟨_, rfl, _, rfl, by omega, q _ _ _ (fr.trans f4) s4 (by omega) ?_ (Fit.inf hB (inf_cut _ _ _))⟩⟩
      exact Nat.le_trans (cutS_length _ _ _) (by omega)
    · exact ⟨_, rfl, q _ _ _ fr s3 (by omega) (by omega) hB⟩
end
end Ft
set_option Elab.async false
set_option linter.all false
set_option maxRecDepth 100000
set_option maxHeartbeats 1000000
namespace Ft
open PySem L2
section
variable {P : PySem.Program} {w : World} {K : PySem.W.Frag} {mg : Str → Option Value} {base : Heap}
theorem lreadBlock_ok {f : Addr} {fd : FuncData} (F : Fun K "_law_read_block" "_law_read_block" sLReadBlock f fd) (B : Bl mg) (m : mg "_law_read_block" = some (.ref f)) (b : Binds K fd ["_law_m", "_law_deep"] [])
    (gLLine : Own P w K mg base 1 "_law_line" ["_law_m"] spLLine) (gLForm : Own P w K mg base 1 "_law_form" ["_law_word_here"] spLForm) (gLHead : Own P w K mg base 2 "_law_head" ["_law_m", "_law_deep"] spLHead) :
    ∀ d : Nat, Own P w K mg base (3 + d) "_law_read_block" ["_law_m", "_law_deep"] (spLReadBlock d)
  | 0 => own_mk F m b (ok_LReadBlock (k := 2) F B (by omega) gLLine gLForm gLHead (own_mk F m b fn_false) (fun e h => absurd h (by omega)))
  | d + 1 => own_mk F m b (ok_LReadBlock (k := 3 + d) F B (by omega) gLLine gLForm gLHead (lreadBlock_ok F B m b gLLine gLForm gLHead d) (fun e h => by
      have : d = e := by omega
      rw [this]))
end
end Ft
set_option Elab.async false
set_option linter.all false
set_option maxRecDepth 100000
set_option maxHeartbeats 1000000
set_option pp.maxSteps 3000
set_option pp.deepTerms.threshold 8
namespace Ft
open PySem L2 TL
theorem seq_extN {H H' : Hp} {K : PySem.W.Frag} {a : Addr} {xs : List V} (e : LamX.ExtN H H') (h : SqL K H a xs) : SqL K H' a xs := by
  rcases h with h | h
  · rcases h with h | ⟨o, h⟩
    · exact .inl (.inl (e _ _ h (fun _ z => nomatch z)))
    · exact .inl (.inr ⟨o, e _ _ h (fun _ z => nomatch z)⟩)
  · exact .inr h
theorem tabs_fr {T : List (Addr × Str)} {H H' : Hp} {p : Addr → Prop} (t : LamX.Tabs T H) (f : Fr p H H') (hp : ∀ y o, H y = some o → ((∃ ps, o = .tbl ps) ∨ ∃ g, o = .ext g) → p y) : LamX.Tabs T H' := fun q hq => by
  obtain ⟨ps, h1, h2, h3⟩ := t q hq
  refine ⟨ps, f _ _ (hp _ _ h1 (.inl ⟨ps, rfl⟩)) h1, h2, fun pos cv hc => ?_⟩
  obtain ⟨c, e1, e2⟩ := h3 pos cv hc
  exact ⟨c, e1, f _ _ (hp _ _ e2 (.inr ⟨_, rfl⟩)) e2⟩
theorem tabs_src {T : List (Addr × Str)} {H H' : Hp} {a : Addr} {n : Int} (t : LamX.Tabs T H) (sr : Src H a n) (f : Fr (· ≠ a) H H') : LamX.Tabs T H' := tabs_fr t f fun y o e k z => by
  obtain ⟨d, s, e', _⟩ := sr
  rw [z, e'] at e
  rcases k with ⟨ps, k⟩ | ⟨g, k⟩
  · rw [k] at e; cases e
  · rw [k] at e; cases e
theorem text_len {lib : Lib} (lr : LibR lib) (l8 : Lib8 lib) (ht : totL lib ≤ 32) : (textL lib).length ≤ 7000000 := by
  have mo := modsL_ok lr l8 ht lib.length
  rw [List.take_length] at mo
  have mz := mo.sz
  unfold textL
  rw [join_eq]
  have h1 := StrLaws.join_length_le Str.empty ((lib.flatMap modL).map fun z => z ++ ("\n" : Str))
  rw [nl_sum] at h1
  have : Str.empty.length = 0 := rfl
  rw [this, Nat.mul_zero] at h1
  omega
theorem src_ext {H H' : Hp} {a : Addr} {n : Int} (h : Src H a n) (e : LamX.ExtN H H') : Src H' a n := by
  obtain ⟨d, s, h, q⟩ := h
  exact ⟨d, s, e _ _ h (fun _ z => nomatch z), q⟩
section
variable {P : PySem.Program} {w : World} {K : PySem.W.Frag} {mg : Str → Option Value} {base : Heap}
abbrev sLaw : Stmt := topS 60
theorem scLaw : FnScope ["_law_script", "_law_turn", "_law_source_here", "_law_text_here", "_law_again"] ["_law_script"] (defScope sLaw) := ⟨rfl, rfl, rfl, by decide +kernel, rfl, by decide +kernel, by decide +kernel⟩
def spLaw (K : PySem.W.Frag) (T : List (Addr × Str)) : Sp := fun vs H Q _ => ∃ (a : Addr) (ns : List Int), vs = [.ref a] ∧ SqL K H a (ns.map V.int) ∧ LamX.Tabs T H ∧ ∀ H', Q (.bl true) H'
theorem ok_law {f : Addr} {fd : FuncData} {k : Nat} {T : List (Addr × Str)} (F : Fun K "law" "law" sLaw f fd) (B : Bl mg) (hk : 179 ≤ k) (gLSource : Own P w K mg base 1 "_law_source" ["_law_script", "_law_k"] (spLSource K)) (gLLibrary : Own P w K mg base 12 "_law_library" ["_law_source_here"] spLLibrary)
    (gLText : Own P w K mg base 6 "_law_text" ["_law_library_here"] spLText) (gLSpoilt : Own P w K mg base 2 "_law_spoilt" ["_law_source_here", "_law_text_here"] spLSpoilt) (gLRight : Own P w K mg base 179 "_law_right" ["_law_text_here"] (spLRight 79 T)) : FnOk P w K mg base CX0 (k + 1) f fd ["_law_script"] (spLaw K T) := by
  refine F.ok scLaw (fun vs H Q E h => ?_) (fun cdv A outer s H vs Q E hr h => ?_)
  · obtain ⟨a, ns, rfl, _⟩ := h
    rfl
  obtain ⟨sa, ns, rfl, hS, tb, q⟩ := h
  refine ⟨_, (pss_cons (ps_for PassesOwn.never rfl (pi_range1 (by rfl) B.range (pa_cons (pe_callB (call_max2 rfl) (by rfl) B.max (by decide +kernel) (pa_cons pe_int (pa_cons (pe_callB (call_min2 rfl) (by rfl) B.min (by decide +kernel) (pa_cons pe_int (pa_cons (pe_callB call_len_seq (by rfl) B.len (by decide +kernel) (pa_cons (pv 0) pa_nil)) pa_nil))) pa_nil))) pa_nil)) (pg_name (i := 1) scLaw.nd rfl (by first | exact Or.inl rfl | exact Or.inr rfl)) (pss_cons (ps_set (i := 2) scLaw.nd rfl (by first | exact Or.inl rfl | exact Or.inr rfl) (pe_own gLSource (hr.mono (by omega)) (by rfl) (pa_cons (pv 0) (pa_cons (pv 1) pa_nil))))
      (pss_cons (ps_set (i := 3) scLaw.nd rfl (by first | exact Or.inl rfl | exact Or.inr rfl) (pe_own gLText (hr.mono (by omega)) (by rfl) (pa_cons (pe_own gLLibrary (hr.mono (by omega)) (by rfl) (pa_cons (pv 2) pa_nil)) pa_nil)))
      (pss_cons (ps_if (PW.pt (pw_or (pt_not (pt_val (pe_own gLRight (hr.mono (by omega)) (by rfl) (pa_cons (pv 3) pa_nil)))) (pw_or1 (pt_not (pt_val (pe_own gLRight (hr.mono (by omega)) (by rfl) (pa_cons (pe_op op_add_str (pv 3) (pv 3)) pa_nil))))))) (pss_one (ps_ret pe_bl)) pss_nil)
      (pss_one (ps_for PassesOwn.never rfl (pi_range1 (by rfl) B.range (pa_cons pe_int pa_nil)) (pg_name (i := 4) scLaw.nd rfl (by first | exact Or.inl rfl | exact Or.inr rfl)) (pss_one (ps_if (pt_not (pt_val (pe_own gLRight (hr.mono (by omega)) (by rfl) (pa_cons (pe_own gLSpoilt (hr.mono (by omega)) (by rfl) (pa_cons (pv 2) (pa_cons (pv 3) pa_nil))) pa_nil)))) (pss_one (ps_ret pe_bl)) pss_nil))))))))
      (pss_one (ps_ret pe_bl))), ?_⟩
  have sl : sizeLine ≥ 16777216 := by decide
  have hl : (ns.map V.int).length = ns.length := List.length_map _
  refine ⟨_, rfl, sa, _, rfl, .inl hS, 20, _, rfl, 10, _, rfl, _, rfl, ?_, ?_, ?_⟩
  · split <;> split <;> omega
  · split <;> split <;> omega
  have nle : (if (if (((ns.map V.int).length : Nat) : Int) < 20 then (((ns.map V.int).length : Nat) : Int) else 20) > 10 then (if (((ns.map V.int).length : Nat) : Int) < 20 then (((ns.map V.int).length : Nat) : Int) else 20) else 10) ≤ 20 := by split <;> split <;> omega
  generalize (if (if (((ns.map V.int).length : Nat) : Int) < 20 then (((ns.map V.int).length : Nat) : Int) else 20) > 10 then (if (((ns.map V.int).length : Nat) : Int) < 20 then (((ns.map V.int).length : Nat) : Int) else 20) else 10) = N at *
  refine for_it (walk_range (lo := 0) (n := N.toNat)) (fun i σ H' => LamX.ExtN H H' ∧ LamX.Tabs T H' ∧ ∃ v1 v2 v3 v4, σ = [some (.ref sa), v1, v2, v3, v4])
    ⟨LamX.ExtN.refl H, tb, none, none, none, none, rfl⟩ (fun _ _ _ _ _ => trivial) ?_ ?_
  · rintro i x0 σ H0 G0 hi ⟨eH, tb0, v1, v2, v3, v4, rfl⟩ ⟨rfl, rfl⟩
    refine ⟨_, rfl, _, rfl, sa, ns, _, rfl, seq_extN eH hS, by omega, by omega, fun H1 a s1 na sr1 => ?_⟩
    have tb1 := tb0.ext s1
    refine ⟨_, rfl, a, 0, rfl, sr1, by decide, fun H2 p kvs lib n2 fr2 sr2 l1 l2 np hp hlib lpos lok => ?_⟩
    have s2 : Same G0 H2 := same_fr s1 fr2 fun b hb => nn_ne na hb
    have tb2 := tb0.ext s2
    have lr : LibR lib := libR_of lok lpos
    have l8 : Lib8 lib := lok.rows
    have ht : totL lib ≤ 32 := lok.tot
    refine ⟨p, kvs, lib, _, rfl, hp, hlib, lr, l8, ht, fun H3 lib4 s3 perm4 sort4 => ?_⟩
    have lr4 : LibR lib4 := libR_perm perm4 lr
    have l84 := Lib8.perm perm4 l8
    have ht4 : totL lib4 ≤ 32 := by
      unfold totL at ht ⊢
      have := (perm4.map fun m : Str × List Row => m.2.length).sum_nat
      omega
    have tl0 := text_len lr4 l84 ht4
    have ft := fit_text lr4.word lr4.rows
    have sG3 : Same G0 H3 := Same.trans s2 s3
    have tb3 := tb0.ext sG3
    have sr3 : Src H3 a n2 := sr2.fr (ok := fun _ => True) (Fr.same s3) trivial
    generalize textL lib4 = tx at *
    obtain ⟨ls1, lt1, ok1⟩ := textOk_of (d := 79) (text := tx) (by omega) (ft.mono (by omega) (by omega))
    obtain ⟨ls2, lt2, ok2⟩ := textOk_of (d := 79) (text := tx ++ tx) (by rw [Str.length_append]; omega) (by rw [tl_append]; exact (ft.app ft).mono (by omega) (by omega))
    refine ⟨_, rfl, tx, ls1, lt1, rfl, ok1, tb3, fun H4 e4 tb4 => ⟨_, rfl, ?_⟩⟩
    refine ⟨_, rfl, _, rfl, _, _, rfl, rfl, by omega, tx ++ tx, ls2, lt2, rfl, ok2, tb4, fun H5 e5 tb5 => ⟨_, rfl, ?_⟩⟩
    have eG5 : LamX.ExtN G0 H5 := (LamX.ExtN.of sG3).trans (e4.trans e5)
    have sr5 : Src H5 a n2 := src_ext sr3 (e4.trans e5)
    refine ⟨4, rfl, by decide, by decide, ?_⟩
    refine for_it (walk_range (lo := 0) (n := (4 : Int).toNat)) (fun j σ H' => LamX.ExtN H H' ∧ LamX.Tabs T H' ∧ (∃ n', Src H' a n' ∧ n' ≤ n2 + 40 * j) ∧ (∀ b o, G0 b = some o → (∀ ps, o ≠ .tbl ps) → H' b = some o) ∧ ∃ v4, σ = [some (.ref sa), some (.int (0 + i)), some (.ref a), some (.str tx), v4])
      ⟨eH.trans eG5, tb5, ⟨_, sr5, by omega⟩, eG5, _, rfl⟩ (fun _ _ _ _ _ => trivial) ?_ ?_
    · rintro j x0 σ H6 H7 hj ⟨eH6, tb6, ⟨n3, sr6, hn3⟩, eG6, v4, rfl⟩ ⟨rfl, rfl⟩
      refine ⟨_, rfl, _, rfl, a, n3, tx, rfl, sr6, by omega, tl0, ft, fun H8 t2 n4 f8 sr8 hn4 lt2' ft2 => ?_⟩
      obtain ⟨ls3, lt3, ok3⟩ := textOk_of (d := 79) (text := t2) (by omega) (ft2.mono (by omega) (by omega))
      have tb8 := tabs_src tb6 sr6 f8
      have eG8 : LamX.ExtN G0 H8 := fun b o e k => f8 _ _ (nn_ne na (by rw [e]; exact fun z => nomatch z)) (eG6 b o e k)
      refine ⟨t2, ls3, lt3, rfl, ok3, tb8, fun H9 e9 tb9 => ⟨_, rfl, ?_⟩⟩
      have eG9 := eG8.trans e9
      exact ⟨eH.trans eG9, tb9, ⟨_, src_ext sr8 e9, by omega⟩, eG9, _, rfl⟩
    · rintro σ H8 ⟨e8, t8, _, _, v4, rfl⟩
      exact ⟨e8, t8, _, _, _, _, rfl⟩
  · rintro σ H9 ⟨e9, t9, v1, v2, v3, v4, rfl⟩
    exact q _
end
end Ft
set_option Elab.async false
set_option linter.all false
set_option maxRecDepth 100000
set_option maxHeartbeats 4000000
set_option Elab.async false
set_option linter.all false
set_option maxRecDepth 100000
set_option maxHeartbeats 4000000
namespace Ft
open PySem PySem.Spec L2 PySem.W
section
variable {prog : PySem.Program} {w : World} {A : Around} {E : Value → Shared → Prop} {s : Shared} {K : Frag} {x C : Addr} {ox : Obj} {od : Option Obj} {name : Str}
/-- a class that takes == and != from object -/
structure PlainEq (K : Frag) (C : Addr) : Prop where
  eq : findIn K (.ref C) "__eq__" = some (some (.builtin "object.__eq__"))
  ne : findIn K (.ref C) "__ne__" = some (some (.builtin "object.__ne__"))
  sub : subIn K (.ref C) (.type "object") = some true
end
end Ft
set_option Elab.async false
set_option linter.all false
set_option maxRecDepth 100000
set_option maxHeartbeats 4000000
set_option pp.maxSteps 1500
namespace Ft
open PySem PySem.Spec PyProof.Rows L2
/-- y is a def with a table of its own, empty -/
def OwnTb (mg : Str → Option Value) (h : Heap) (y : Str) : Prop := ∃ (a : Addr) (o : Obj) (fd : FuncData) (c P : Addr), mg y = some (.ref a) ∧ h.get? a = some o ∧ o.data = .func fd ∧ fd.code = .ref c ∧ PySem.W.CodeHd h c P ∧ h.get? P = some { cls := .none, data := .fields #[] }
theorem walk_ofOwnN {l : PySem.W.OpenLaw} {n k : Nat} {q : Program} {loose : List Str} {XP : (Str → Option Value) → Heap → Prop} {YP : World → Heap → Prop} {d : DefRec} {CX : World → CXT} {x : Str} (ys : List Str)
    (hn : l.most = some n) (hn2 : n ≤ sizeLine) (hdf : d.params.defaults = []) (hr : Room k callerA) (hrec : (ys.all fun y => (recsOf q).any fun e => e.name == y) = true)
    (F : ∀ (w : World) (mg : Str → Option Value) (fa : Addr) (h : Heap), YP w h → h.Ns mainGlobals mg → mg d.name = some (.ref fa) → (∀ y ∈ ys, OwnTb mg h y) → ∃ K : PySem.W.Frag, K.In h ∧ LamX.LawAtS l w K (CX w) k n x mg fa h)
    (hCX : ∀ (w : World) (H : Hp) (s : Shared) (e : Value) (s' : Shared), CX w [] H s (fun _ _ _ => False) e s' → False) :
    PySem.W.WalkO q loose XP YP l.row.toRowW d [] (fun f vs => PySem.call f vs) := by
  refine Att.attach_callB hn hdf fun w s₀ s₁ mg mb fa o pm cd doc a vs ns G Y ho hd hcd hmg hobj hints hlen hbits hg => ?_
  have own : ∀ y ∈ ys, OwnTb mg s₁.heap y := fun y hy => by
    obtain ⟨dL, hm, hn1⟩ := List.any_eq_true.mp (List.all_eq_true.mp hrec y hy)
    have hn2 : dL.name = y := beq_iff_eq.mp hn1
    obtain ⟨a', o', fd', c', P', h1, h2, h3, h4, h5, h6⟩ := G.T.tab dL hm
    rw [hn2] at h1
    exact ⟨a', o', fd', c', P', h1, h2, h3, h4, PySem.W.CodeHd.of h5 h6, h6.2⟩
  obtain ⟨K, KX, fd, cs, sp, hT, nT, C, hb, hsp, hF⟩ := F w mg fa _ Y G.T.g hmg own
  exact LamX.law_callTs KX G.T.g G.T.b G.T.builtins G.T.nolimit hg hT nT C G.T.bmain hobj hints (Nat.le_trans hlen hn2) hr hF hb (fun H hH hS => hsp H a ns hlen hbits hH hS) fun H e s' => hCX w H s₁ e s'
end Ft
set_option Elab.async false
set_option linter.all false
set_option maxRecDepth 100000
set_option maxHeartbeats 0
namespace Ft
open PySem L2
def dX (x : Str) (st : Stmt) : He.DefD := ⟨(x, none), x, x, defArgs st, defBody st, defScope st, [], []⟩
def dM (c m q : Str) (st : Stmt) : He.DefD := ⟨(c, some m), m, q, defArgs st, defBody st, defScope st, [], []⟩
def hFn : List He.DefD := [dX "_law_source" sLSource,
  dX "_law_draw" sLDraw,
  dX "_law_pick" sLPick,
  dX "_law_same" sLSame,
  dX "_law_word" sLWord,
  dX "_law_number" sLNumber,
  dX "_law_plain_row" sLPlainRow,
  dX "_law_row" sLRow,
  dX "_law_block" sLBlock,
  dX "_law_library" sLLibrary,
  dX "_law_tupled" sLTupled,
  dX "_law_walked" sLWalked,
  dX "_law_blocks" sLBlocks,
  dX "_law_lines" sLLines,
  dX "_law_text" sLText,
  dX "_law_is_word" sLIsWord,
  dX "_law_form" sLForm,
  dX "_law_number_of" sLNumberOf,
  dX "_law_line" sLLine,
  dX "_law_head" sLHead,
  dX "_law_read_block" sLReadBlock,
  dX "_law_read" sLRead,
  dX "_law_is_row" sLIsRow,
  dX "_law_first_wrong" sLFirstWrong,
  dX "_law_within" sLWithin,
  dX "_law_due" sLDue,
  dX "_law_tried" sLTried,
  dX "_law_told" sLTold,
  dX "_law_right" sLRight,
  dX "_law_spoilt" sLSpoilt,
  dX "law" sLaw,
  dX "is_integer" sIsInteger,
  dX "is_word" sIsWord,
  dX "is_field" sIsField,
  dX "is_row" sIsRow,
  dX "blocks_of" sBlocksOf,
  dX "first_wrong" sFirstWrong,
  dX "check_modules" sCheckModules,
  dX "frozen" sFrozen,
  dX "walked" sWalked,
  dX "is_written" sIsWritten,
  dX "number_of" sNumberOf,
  dX "read_row" sReadRow,
  dX "stands_at" sStandsAt,
  dX "read_rows" sReadRows,
  dX "read_modules" sReadModules,
  dM "Program" "__init__" "Program.__init__" sProgramInit,
  dM "Program" "modules" "Program.modules" sProgramModules,
  dM "Program" "rows" "Program.rows" sProgramRows,
  dM "BadProgram" "__init__" "BadProgram.__init__" sBadProgramInit,
  dM "BadText" "__init__" "BadText.__init__" sBadTextInit,
  dM "BadWord" "__init__" "BadWord.__init__" sBadWordInit]
def hFa : List He.Fa := [.glo "_law_source",
  .glo "_law_draw",
  .glo "_law_pick",
  .glo "_law_same",
  .glo "_law_word",
  .glo "_law_number",
  .glo "_law_plain_row",
  .glo "_law_row",
  .glo "_law_block",
  .glo "_law_library",
  .glo "_law_tupled",
  .glo "_law_walked",
  .glo "_law_blocks",
  .glo "_law_lines",
  .glo "_law_text",
  .glo "_law_is_word",
  .glo "_law_form",
  .glo "_law_number_of",
  .glo "_law_line",
  .glo "_law_head",
  .glo "_law_read_block",
  .glo "_law_read",
  .glo "_law_is_row",
  .glo "_law_first_wrong",
  .glo "_law_within",
  .glo "_law_due",
  .glo "_law_tried",
  .glo "_law_told",
  .glo "_law_right",
  .glo "_law_spoilt",
  .glo "law",
  .glo "is_integer",
  .glo "is_word",
  .glo "is_field",
  .glo "is_row",
  .glo "blocks_of",
  .glo "first_wrong",
  .glo "check_modules",
  .glo "frozen",
  .glo "walked",
  .glo "is_written",
  .glo "number_of",
  .glo "read_row",
  .glo "stands_at",
  .glo "read_rows",
  .glo "read_modules",
  .free "int",
  .free "len",
  .free "range",
  .free "isinstance",
  .free "tuple",
  .free "list",
  .free "dict",
  .free "str",
  .free "bool",
  .free "sorted",
  .free "zip",
  .free "enumerate",
  .free "all",
  .free "max",
  .free "min",
  .free "sum",
  .free "any",
  .glo "Program",
  .cls "Program",
  .noat "Program" "rows_of",
  .noat "Program" "spots",
  .mkr "Program",
  .meth "Program" "modules",
  .meth "Program" "rows",
  .glo "FIELDS",
  .str "LETTERS" letters,
  .str "STEP" "  ",
  .str "FIGURES" "0123456789",
  .glo "BadProgram",
  .noat "BadProgram" "module",
  .noat "BadProgram" "path",
  .glo "BadText",
  .noat "BadText" "line",
  .glo "BadWord",
  .noat "BadWord" "word",
  .exm "BadProgram" "BadProgram" true,
  .exm "BadWord" "BadProgram" false,
  .exm "BadWord" "BadText" false,
  .exm "BadWord" "BadWord" true,
  .exm "BadText" "BadProgram" false,
  .exm "BadText" "BadText" true]
def hTs : List He.Tab := [(fun K => He.ga K "FIELDS", fieldsT.map (·.1))]
def hDefs0 : List Str := ["_law_source", "_law_draw", "_law_pick", "_law_same", "_law_word", "_law_number", "_law_plain_row", "_law_row", "_law_block", "_law_library", "_law_tupled", "_law_walked"]
def hDefs1 : List Str := ["_law_blocks", "_law_lines", "_law_text", "_law_is_word", "_law_form", "_law_number_of", "_law_line", "_law_head", "_law_read_block", "_law_read", "_law_is_row", "_law_first_wrong"]
def hDefs2 : List Str := ["_law_within", "_law_due", "_law_tried", "_law_told", "_law_right", "_law_spoilt", "law", "is_integer", "is_word", "is_field", "is_row", "blocks_of"]
def hDefs3 : List Str := ["first_wrong", "check_modules", "frozen", "walked", "is_written", "number_of", "read_row", "stands_at", "read_rows", "read_modules"]
def hDefs : List Str := hDefs0 ++ hDefs1 ++ hDefs2 ++ hDefs3
def hCls : List Str := ["Program", "TouchError", "BadProgram", "BadText", "BadWord"]
def hMeths : List (Str × Str) := [("Program", "__init__"), ("Program", "modules"), ("Program", "rows"), ("BadProgram", "__init__"), ("BadText", "__init__"), ("BadWord", "__init__"), ("Program", "read")]
def nm0 : List Str := ["_wall", "TouchError", "BadProgram", "BadText", "BadWord", "LETTERS", "is_integer", "is_word", "FIGURES", "STEP", "FIELDS", "is_field", "is_row", "blocks_of", "first_wrong", "check_modules", "frozen", "walked", "lines_of", "is_written", "number_of", "read_row", "stands_at", "read_rows", "read_modules", "Program", "_law_source", "_law_draw", "_law_pick", "_law_same"]
def nm1 : List Str := ["_law_word", "_law_number", "_law_plain_row", "_law_row", "_law_block", "_law_library", "_law_tupled", "_law_walked", "_law_blocks", "_law_lines", "_law_text", "_law_is_word", "_law_form", "_law_number_of", "_law_line", "_law_head", "_law_read_block", "_law_read", "_law_is_row", "_law_first_wrong", "_law_within", "_law_due", "_law_tried", "_law_told", "_law_spoilt"]
def hNames : List Str := nm0 ++ nm1
def lawIx : Nat := 60
def topM : Nat := 20000
/-- the tuples of the table -/
def strsB : List Str → List Value → Bool
  | [], [] => true
  | z :: zs, .str y _ :: us => decide (y = z) && strsB zs us
  | _, _ => false
theorem strsB_ok : ∀ {zs : List Str} {us : List Value}, strsB zs us = true → Vals (zs.map V.str) us
  | [], [], _ => .nil
  | [], _ :: _, h => by cases h
  | _ :: _, [], h => by cases h
  | z :: zs, u :: us, h => by
    cases u with
    | str y t =>
      unfold strsB at h
      rw [Bool.and_eq_true] at h
      have e : y = z := of_decide_eq_true h.1
      subst e
      exact .cons ⟨t, rfl⟩ (strsB_ok h.2)
    | _ => cases h
def fldB (K : PySem.W.Frag) (p : Str × List Str) : Bool := match PySem.W.nsIn K (He.ga K "FIELDS") p.1 with
  | some (some (.ref a)) => (match K.lookup a with
    | some ⟨.type c, _, .seq its _, _⟩ => decide (c = "tuple") && (decide (its.size ≤ 100) && strsB p.2 its.toList)
    | _ => false)
  | _ => false
theorem fldB_ok {K : PySem.W.Frag} {p : Str × List Str} (h : fldB K p = true) : ∃ tA, PySem.W.nsIn K (He.ga K "FIELDS") p.1 = some (some (.ref tA)) ∧ ∀ H, SqT K H tA (p.2.map V.str) := by
  unfold fldB at h
  split at h
  · rename_i a e
    split at h
    · rename_i c od its n sl q
      rw [Bool.and_eq_true, Bool.and_eq_true] at h
      have ec : c = "tuple" := of_decide_eq_true h.1
      have ez : its.size ≤ 100 := of_decide_eq_true h.2.1
      subst ec
      exact ⟨a, e, fun H => .inr ⟨_, its, n, q, rfl, rfl, Nat.le_of_lt (small (by omega)), strsB_ok h.2.2⟩⟩
    · cases h
  · cases h
theorem no_key {w : World} {K : PySem.W.Frag} {a : Addr} {ks : List Str} (h : He.dicW K a = some (He.keysIn w.params ks)) {z : Str} (hz : z ∉ ks) : PySem.W.nsIn K a z = some none := by
  unfold He.dicW at h
  split at h
  · rename_i c es n sl q
    split at h
    · have h' := Option.some.inj h
      have all : ∀ e ∈ es.toList, ∃ x t, e.key = .str x t ∧ x ∈ ks := by
        have go : ∀ (l : List DictEntry) (ks : List Str), l.map He.keyOf = He.keysIn w.params ks → ∀ e ∈ l, ∃ x t, e.key = .str x t ∧ x ∈ ks := by
          intro l
          induction l with
          | nil => intro ks _ e he; cases he
          | cons d l ih =>
            intro ks h e he
            cases ks with
            | nil => cases h
            | cons k ks =>
              have h2 : He.keyOf d :: l.map He.keyOf = some (k, PyData.keyHash w.params k) :: He.keysIn w.params ks := h
              have h3 := List.cons.inj h2
              rcases List.mem_cons.mp he with e1 | he
              · rw [e1]
                have h4 := h3.1
                unfold He.keyOf at h4
                split at h4
                · rename_i x t qk
                  have h5 := Prod.mk.inj (Option.some.inj h4)
                  exact ⟨x, t, qk, by rw [h5.1]; simp⟩
                · cases h4
              · obtain ⟨x, t, h5, h6⟩ := ih ks h3.2 e he
                exact ⟨x, t, h5, by simp [h6]⟩
        exact go _ _ h'
      unfold PySem.W.nsIn
      rw [q]
      have e1 : es.toList.find? (fun e => e.key.isStr z) = none := by
        rw [List.find?_eq_none]
        intro e he
        obtain ⟨x, t, hk, hx⟩ := all e he
        rw [hk]
        intro hs
        have : x = z := by
          have hs' : (x == z) = true := hs
          exact beq_iff_eq.mp hs'
        exact hz (by rw [← this]; exact hx)
      have e2 : es.toList.any (fun e => e.refKey) = false := by
        rw [List.any_eq_false]
        intro e he
        obtain ⟨x, t, hk, hx⟩ := all e he
        unfold DictEntry.refKey
        rw [hk]
        exact Bool.false_ne_true
      show (match es.toList.find? (fun e => e.key.isStr z) with
        | some e => some (some e.val)
        | none => if es.toList.any (fun e => e.refKey) then none else some none) = some none
      rw [e1]
      show (if es.toList.any (fun e => e.refKey) then none else some none) = some none
      rw [e2]
      rfl
    · cases h
  · cases h
def oexB (K : PySem.W.Frag) (C : Addr) : Bool := (match K.lookup C with
  | some ⟨.type "type", _, .cls cd, sl⟩ => (match cd.mro, sl.toList with
    | .ref C' :: bm, [_, _, _, _, some (.builtin n), _] => C' == C && n == "ValueError.__new__" && !cd.hasDel && cd.hasDict && PySem.HandSPX.refsVE bm
    | _, _ => false)
  | _ => false) && (He.eqO (PySem.W.findIn K (.ref C) "__setattr__") (some (some (.builtin "object.__setattr__"))) && (decide (PySem.W.subIn K (.ref C) (.type "BaseException") = some true) && (decide (PySem.W.typeIn K (.ref C) = some (.type "type")) && PySem.W.keepIn K (.ref C))))
theorem oexB_ok {K : PySem.W.Frag} {C : Addr} (h : oexB K C = true) : OexC K C := by
  obtain ⟨h1, h⟩ := Bool.and_eq_true_iff.mp h
  obtain ⟨h2, h⟩ := Bool.and_eq_true_iff.mp h
  obtain ⟨h3, h⟩ := Bool.and_eq_true_iff.mp h
  obtain ⟨h4, h5⟩ := Bool.and_eq_true_iff.mp h
  refine ⟨?_, He.eqO_ok h2, of_decide_eq_true h3, of_decide_eq_true h4, h5⟩
  split at h1
  · rename_i dd cd sl ho
    split at h1
    · rename_i C' bm k0 k1 k2 k3 n k5 hm hs
      simp only [Bool.and_eq_true, beq_iff_eq, Bool.not_eq_true'] at h1
      obtain ⟨⟨⟨⟨rfl, rfl⟩, hdel⟩, hdi⟩, hr⟩ := h1
      obtain ⟨nm, bs, mro, ns, qn, hd, sn, sub, ab, col, del⟩ := cd
      dsimp only at hm hdel hdi
      subst hm hdel hdi
      have hsl : sl = #[k0, k1, k2, k3, some (.builtin "ValueError.__new__"), k5] := by
        obtain ⟨l⟩ := sl
        simp only at hs
        rw [hs]
      subst hsl
      exact ⟨nm, qn, ns, bs, bm, sn, sub, ab, col, dd, k0, k1, k2, k3, k5, ho, hr⟩
    · cases h1
  · cases h1
def eqpB (K : PySem.W.Frag) (C : Addr) : Bool := He.eqO (PySem.W.findIn K (.ref C) "__eq__") (some (some (.builtin "object.__eq__"))) && (He.eqO (PySem.W.findIn K (.ref C) "__ne__") (some (some (.builtin "object.__ne__"))) && decide (PySem.W.subIn K (.ref C) (.type "object") = some true))
theorem eqpB_ok {K : PySem.W.Frag} {C : Addr} (h : eqpB K C = true) : PlainEq K C := by
  obtain ⟨h1, h⟩ := Bool.and_eq_true_iff.mp h
  obtain ⟨h2, h3⟩ := Bool.and_eq_true_iff.mp h
  exact ⟨He.eqO_ok h1, He.eqO_ok h2, of_decide_eq_true h3⟩
def errB (K : PySem.W.Frag) (x : Str) : Bool := oexB K (He.ga K x) && (xfB K (He.ga K x) && (He.eqO (PySem.W.findIn K (.ref (He.ga K x)) "__init__") (some (some (.ref (He.ma K (He.ga K x) "__init__")))) && decide (PySem.W.typeIn K (.ref (He.ma K (He.ga K x) "__init__")) = some (.type "function"))))
theorem errB_ok {K : PySem.W.Frag} {x : Str} (h : errB K x = true) : OexC K (He.ga K x) ∧ XfC K (He.ga K x) ∧ PySem.W.findIn K (.ref (He.ga K x)) "__init__" = some (some (.ref (He.ma K (He.ga K x) "__init__"))) ∧ PySem.W.typeIn K (.ref (He.ma K (He.ga K x) "__init__")) = some (.type "function") := by
  obtain ⟨h1, h⟩ := Bool.and_eq_true_iff.mp h
  obtain ⟨h2, h⟩ := Bool.and_eq_true_iff.mp h
  obtain ⟨h3, h4⟩ := Bool.and_eq_true_iff.mp h
  exact ⟨oexB_ok h1, xfB_ok h2, He.eqO_ok h3, of_decide_eq_true h4⟩
def prC (K : PySem.W.Frag) : Addr := He.ga K "Program"
def hEx (K : PySem.W.Frag) : Bool := fieldsT.all (fldB K) && ((eqpB K (He.ga K "Program")) && (errB K "BadProgram" && (errB K "BadText" && (errB K "BadWord" && ((PySem.W.readsIn K (prC K) (.type "type") && (He5.wrapB K (prC K) "classmethod" "classmethod.__get__" "read" && PySem.W.fnIn K (He5.wf K (prC K) "classmethod" "read"))) && (noTabB K (He.ga K "_law_right")))))))
def hA : List He5.DefA := [⟨fun K => He5.wf K (prC K) "classmethod" "read", "read", "Program.read", defArgs sProgramRead, defBody sProgramRead, defScope sProgramRead, [], []⟩]
theorem cread_ok {K : PySem.W.Frag} {C : Addr} (h : PySem.W.readsIn K C (.type "type") = true) : ClX.CRead K C (.type "type") := by
  refine ⟨h, ?_⟩
  unfold PySem.W.readsIn at h
  obtain ⟨h, _⟩ := Bool.and_eq_true_iff.mp h
  obtain ⟨h, _⟩ := Bool.and_eq_true_iff.mp h
  obtain ⟨h, h3⟩ := Bool.and_eq_true_iff.mp h
  obtain ⟨_, h2⟩ := Bool.and_eq_true_iff.mp h
  unfold PySem.W.specialIn
  rw [beq_iff_eq.mp h2, Option.bind_some]
  exact beq_iff_eq.mp h3
abbrev AlY : Type := He.AlT × (Bool × List He.FnW)
def obsK (K : PySem.W.Frag) : AlY := (He.obsT hFa hFn hTs K, (hEx K && hA.all fun d => d.ok K, hA.map fun d => He5.fnA K (d.at_ K)))
def valY (w : World) : AlY := (He.valT hFn hTs w, (true, hA.map He5.DefA.val))
def nsA (g : Addr → Option Obj) (C : Addr) : Addr := match g C with
  | some ⟨_, _, .cls cd, _⟩ => cd.ns
  | _ => 0
def fnRefs (g : Addr → Option Obj) (a : Addr) : List Addr := match g a with
  | some ⟨_, _, .func fd, _⟩ => He.refV fd.code ++ He.refV fd.defaults
  | _ => []
def tabRefs (g : Addr → Option Obj) (a : Addr) : List Addr := match g a with
  | some o => He.refsD o
  | none => []
def cmF (g : Addr → Option Obj) (p : Addr) : List Addr := match PySem.W.recIn (He.frG g [p]) p "classmethod" with
  | some (.ref f :: _) => [f]
  | _ => []
def as0 : List Addr := [mainGlobals, cStatics]
def asC (g : Addr → Option Obj) (K : PySem.W.Frag) : List Addr := hCls.map (He.ga K) ++ hCls.map fun c => nsA g (He.ga K c)
def asM (K : PySem.W.Frag) : List Addr := hMeths.map fun p => He.ma K (He.ga K p.1) p.2
def asF (K : PySem.W.Frag) : List Addr := hDefs.map (He.ga K)
def asAll (g : Addr → Option Obj) (cs fs ms : List Addr) (tb : List Addr) (em : List Addr) : List Addr := as0 ++ cs ++ fs ++ ms ++ tb ++ em ++ fs.flatMap (fnRefs g) ++ ms.flatMap (fnRefs g) ++ em.flatMap (fnRefs g) ++ tb.flatMap (tabRefs g)
def as2 (g : Addr → Option Obj) (K0 K1 : PySem.W.Frag) : List Addr := asAll g (asC g K0) (asF K0) (asM K1) [He.ga K0 "FIELDS"] (cmF g (He.ma K1 (He.ga K1 "Program") "read"))
def asY (g : Addr → Option Obj) : List Addr := as2 g (He.frG g as0) (He.frG g (as0 ++ asC g (He.frG g as0)))
def obsY (g : Addr → Option Obj) : AlY := obsK (He.frG g (asY g))
abbrev hHk : PySem.W.Hook where
  α := AlY
  obs := fun s => obsY s.heap.get?
  val := fun w => valY w
  says := fun w h => ∃ K : PySem.W.Frag, K.In h ∧ obsK K = valY w
  of := fun _ _ e => ⟨_, He.frG_in, e⟩
  keeps := fun _ _ _ ⟨K, hK, c⟩ k => ⟨K, PySem.W.Frag.In.keeps hK k, c⟩
abbrev hR : PySem.W.OpenRow := PySem.W.OpenLaw.row PySem.Challenge.rw_firsttouch_k12_whole_texts_spoilt
def hOb (s : PySem.W.SharedT) : AlY := obsY (HandSHeadRun.getT s)
theorem hOb_eq (s : PySem.W.SharedT) : hOb s = hHk.obs s.abs := by
  have e : HandSHeadRun.getT s = s.abs.heap.get? := funext (HandSHeadRun.getT_eq s)
  show obsY (HandSHeadRun.getT s) = obsY s.abs.heap.get?
  rw [e]
abbrev runP (w : World) : Prop := HandSHeadRun.RunEq hR (PySem.W.view hR.prog [58, lawIx]) hHk hOb topM hNames w
theorem hRunF (w : World) : runP (w.withFollow "special-get-raises" false) := by intro os; kernel_rfl
theorem hRunT (w : World) : runP (w.withFollow "special-get-raises" true) := by intro os; kernel_rfl
theorem hRun (w : World) : HandSHeadRun.RunEq hR (PySem.W.view hR.prog [58, lawIx]) hHk hOb topM hNames w := PySem.W.byRow2 "special-get-raises" (P := runP) hRunF hRunT w
end Ft
set_option Elab.async false
set_option linter.all false
set_option maxRecDepth 100000
set_option maxHeartbeats 0
namespace Ft
open PySem L2
theorem noTab_ok {K : PySem.W.Frag} {h : Heap} {f c Pt : Addr} {oc : Value} {od : Option Addr} {fd : FuncData} {sl : Array (Option Value)} (X : K.In h) (hb : noTabB K f = true) (lk : K.lookup f = some ⟨oc, od, .func fd, sl⟩) (hc : fd.code = .ref c) (C : PySem.W.CodeHd h c Pt) : K.lookup Pt = none := by
  unfold noTabB at hb
  rw [lk] at hb
  simp only [hc] at hb
  obtain ⟨o, vs, file, tf, flags, tg, inF, text, tt, e1, e2, e3, e4, _⟩ := C
  split at hb
  · rename_i lkc
    have g := X _ _ lkc
    rw [e1] at g
    cases g
    cases e3
    rw [e4] at hb
    exact Option.isNone_iff_eq_none.mp hb
  · cases hb
theorem facts {P : PySem.Program} {w : World} {K : PySem.W.Frag} {h : Heap} {mg : Str → Option Value} {f : Addr} (X : K.In h) (G : h.Ns mainGlobals mg) (hfa : mg ("law" : Str) = some (.ref f)) (c : obsK K = valY w) :
    noTabB K (He.ga K "_law_right") = true ∧ mg ("_law_right" : Str) = some (.ref (He.ga K "_law_right")) ∧ ∃ (fdR : FuncData) (oc : Value) (od : Option Addr) (sl : Array (Option Value)), K.lookup (He.ga K "_law_right") = some ⟨oc, od, .func fdR, sl⟩ ∧ ∃ fd : FuncData, (∀ (s : Shared) (v : Value), BindsTo s fd ⟨[v], []⟩ [("_law_script", v)]) ∧ ∀ c Pt : Addr, fdR.code = .ref c → ∀ base : Heap, K.In base → base.Ns mainGlobals mg → LamX.TabB base mg c Pt → FnOk P w K mg base CX0 180 f fd ["_law_script"] (spLaw K [(Pt, qnRight)]) := by
  have cT : He.SaysT hFa hFn hTs w K := congrArg (fun z : AlY => z.1) c
  have cM : (hEx K && hA.all fun d => d.ok K) = true := congrArg (fun z : AlY => z.2.1) c
  have cd := cT.d
  obtain ⟨hX, hAok⟩ := Bool.and_eq_true_iff.mp cM
  obtain ⟨x1, hX⟩ := Bool.and_eq_true_iff.mp hX
  obtain ⟨x2, hX⟩ := Bool.and_eq_true_iff.mp hX
  obtain ⟨xoBadProgram, hX⟩ := Bool.and_eq_true_iff.mp hX
  obtain ⟨xoBadText, hX⟩ := Bool.and_eq_true_iff.mp hX
  obtain ⟨xoBadWord, hX⟩ := Bool.and_eq_true_iff.mp hX
  have hAok := List.all_eq_true.mp hAok
  have cA : hA.map (fun d => He5.fnA K (d.at_ K)) = hA.map He5.DefA.val := congrArg (fun z : AlY => z.2.2) c
  obtain ⟨xr, hX⟩ := Bool.and_eq_true_iff.mp hX
  obtain ⟨x7, xr⟩ := Bool.and_eq_true_iff.mp xr
  obtain ⟨x8, x9⟩ := Bool.and_eq_true_iff.mp xr
  have CR : ClX.CRead K (He.ga K "Program") (.type "type") := cread_ok x7
  have CM : ClX.CMet K (He.ga K "Program") (.type "type") "read" (He.ma K (He.ga K "Program") "read") (He5.wf K (He.ga K "Program") "classmethod" "read") := He5.cmet_of x8 x9
  obtain ⟨fdProgramRead, F0ProgramRead⟩ := He5.DefA.funD (K := K) (d := ⟨fun K => He5.wf K (prC K) "classmethod" "read", "read", "Program.read", defArgs sProgramRead, defBody sProgramRead, defScope sProgramRead, [], []⟩) (List.cons.inj cA).1 (hAok _ (by simp [hA]))
  have FProgramRead : Fun K "read" "Program.read" sProgramRead (He5.wf K (He.ga K "Program") "classmethod" "read") fdProgramRead := He5.fun_of F0ProgramRead
  have bProgramRead : Binds K fdProgramRead ["cls", "text"] [] := FProgramRead.binds fun _ _ _ _ _ _ us hl => match us, hl with | [_, _], _ => rfl
  obtain ⟨fdLSource, F0LSource⟩ := cd.def_ 0 (d := dX "_law_source" sLSource) rfl
  have FLSource : Fun K "_law_source" "_law_source" sLSource (He.ga K "_law_source") fdLSource := He5.fun_of F0LSource
  have bLSource : Binds K fdLSource ["_law_script", "_law_k"] [] := FLSource.binds fun _ _ _ _ _ _ us hl => match us, hl with | [_, _], _ => rfl
  obtain ⟨fdLDraw, F0LDraw⟩ := cd.def_ 1 (d := dX "_law_draw" sLDraw) rfl
  have FLDraw : Fun K "_law_draw" "_law_draw" sLDraw (He.ga K "_law_draw") fdLDraw := He5.fun_of F0LDraw
  have bLDraw : Binds K fdLDraw ["_law_source_here", "_law_many"] [] := FLDraw.binds fun _ _ _ _ _ _ us hl => match us, hl with | [_, _], _ => rfl
  obtain ⟨fdLPick, F0LPick⟩ := cd.def_ 2 (d := dX "_law_pick" sLPick) rfl
  have FLPick : Fun K "_law_pick" "_law_pick" sLPick (He.ga K "_law_pick") fdLPick := He5.fun_of F0LPick
  have bLPick : Binds K fdLPick ["_law_source_here", "_law_some"] [] := FLPick.binds fun _ _ _ _ _ _ us hl => match us, hl with | [_, _], _ => rfl
  obtain ⟨fdLSame, F0LSame⟩ := cd.def_ 3 (d := dX "_law_same" sLSame) rfl
  have FLSame : Fun K "_law_same" "_law_same" sLSame (He.ga K "_law_same") fdLSame := He5.fun_of F0LSame
  have bLSame : Binds K fdLSame ["_law_found", "_law_due_here"] [] := FLSame.binds fun _ _ _ _ _ _ us hl => match us, hl with | [_, _], _ => rfl
  obtain ⟨fdLWord, F0LWord⟩ := cd.def_ 4 (d := dX "_law_word" sLWord) rfl
  have FLWord : Fun K "_law_word" "_law_word" sLWord (He.ga K "_law_word") fdLWord := He5.fun_of F0LWord
  have bLWord : Binds K fdLWord ["_law_source_here"] [] := FLWord.binds fun _ _ _ _ _ _ us hl => match us, hl with | [_], _ => rfl
  obtain ⟨fdLNumber, F0LNumber⟩ := cd.def_ 5 (d := dX "_law_number" sLNumber) rfl
  have FLNumber : Fun K "_law_number" "_law_number" sLNumber (He.ga K "_law_number") fdLNumber := He5.fun_of F0LNumber
  have bLNumber : Binds K fdLNumber ["_law_source_here"] [] := FLNumber.binds fun _ _ _ _ _ _ us hl => match us, hl with | [_], _ => rfl
  obtain ⟨fdLPlainRow, F0LPlainRow⟩ := cd.def_ 6 (d := dX "_law_plain_row" sLPlainRow) rfl
  have FLPlainRow : Fun K "_law_plain_row" "_law_plain_row" sLPlainRow (He.ga K "_law_plain_row") fdLPlainRow := He5.fun_of F0LPlainRow
  have bLPlainRow : Binds K fdLPlainRow ["_law_source_here", "_law_word_here"] [] := FLPlainRow.binds fun _ _ _ _ _ _ us hl => match us, hl with | [_, _], _ => rfl
  obtain ⟨fdLRow, F0LRow⟩ := cd.def_ 7 (d := dX "_law_row" sLRow) rfl
  have FLRow : Fun K "_law_row" "_law_row" sLRow (He.ga K "_law_row") fdLRow := He5.fun_of F0LRow
  have bLRow : Binds K fdLRow ["_law_source_here", "_law_budget", "_law_deep", "_law_in_make"] [] := FLRow.binds fun _ _ _ _ _ _ us hl => match us, hl with | [_, _, _, _], _ => rfl
  obtain ⟨fdLBlock, F0LBlock⟩ := cd.def_ 8 (d := dX "_law_block" sLBlock) rfl
  have FLBlock : Fun K "_law_block" "_law_block" sLBlock (He.ga K "_law_block") fdLBlock := He5.fun_of F0LBlock
  have bLBlock : Binds K fdLBlock ["_law_source_here", "_law_budget", "_law_deep", "_law_in_make"] [] := FLBlock.binds fun _ _ _ _ _ _ us hl => match us, hl with | [_, _, _, _], _ => rfl
  obtain ⟨fdLLibrary, F0LLibrary⟩ := cd.def_ 9 (d := dX "_law_library" sLLibrary) rfl
  have FLLibrary : Fun K "_law_library" "_law_library" sLLibrary (He.ga K "_law_library") fdLLibrary := He5.fun_of F0LLibrary
  have bLLibrary : Binds K fdLLibrary ["_law_source_here"] [] := FLLibrary.binds fun _ _ _ _ _ _ us hl => match us, hl with | [_], _ => rfl
  obtain ⟨fdLTupled, F0LTupled⟩ := cd.def_ 10 (d := dX "_law_tupled" sLTupled) rfl
  have FLTupled : Fun K "_law_tupled" "_law_tupled" sLTupled (He.ga K "_law_tupled") fdLTupled := He5.fun_of F0LTupled
  have bLTupled : Binds K fdLTupled ["_law_thing"] [] := FLTupled.binds fun _ _ _ _ _ _ us hl => match us, hl with | [_], _ => rfl
  obtain ⟨fdLWalked, F0LWalked⟩ := cd.def_ 11 (d := dX "_law_walked" sLWalked) rfl
  have FLWalked : Fun K "_law_walked" "_law_walked" sLWalked (He.ga K "_law_walked") fdLWalked := He5.fun_of F0LWalked
  have bLWalked : Binds K fdLWalked ["_law_rows", "_law_ahead"] [] := FLWalked.binds fun _ _ _ _ _ _ us hl => match us, hl with | [_, _], _ => rfl
  obtain ⟨fdLBlocks, F0LBlocks⟩ := cd.def_ 12 (d := dX "_law_blocks" sLBlocks) rfl
  have FLBlocks : Fun K "_law_blocks" "_law_blocks" sLBlocks (He.ga K "_law_blocks") fdLBlocks := He5.fun_of F0LBlocks
  have bLBlocks : Binds K fdLBlocks ["_law_row_here"] [] := FLBlocks.binds fun _ _ _ _ _ _ us hl => match us, hl with | [_], _ => rfl
  obtain ⟨fdLLines, F0LLines⟩ := cd.def_ 13 (d := dX "_law_lines" sLLines) rfl
  have FLLines : Fun K "_law_lines" "_law_lines" sLLines (He.ga K "_law_lines") fdLLines := He5.fun_of F0LLines
  have bLLines : Binds K fdLLines ["_law_rows", "_law_deep"] [] := FLLines.binds fun _ _ _ _ _ _ us hl => match us, hl with | [_, _], _ => rfl
  obtain ⟨fdLText, F0LText⟩ := cd.def_ 14 (d := dX "_law_text" sLText) rfl
  have FLText : Fun K "_law_text" "_law_text" sLText (He.ga K "_law_text") fdLText := He5.fun_of F0LText
  have bLText : Binds K fdLText ["_law_library_here"] [] := FLText.binds fun _ _ _ _ _ _ us hl => match us, hl with | [_], _ => rfl
  obtain ⟨fdLIsWord, F0LIsWord⟩ := cd.def_ 15 (d := dX "_law_is_word" sLIsWord) rfl
  have FLIsWord : Fun K "_law_is_word" "_law_is_word" sLIsWord (He.ga K "_law_is_word") fdLIsWord := He5.fun_of F0LIsWord
  have bLIsWord : Binds K fdLIsWord ["_law_thing"] [] := FLIsWord.binds fun _ _ _ _ _ _ us hl => match us, hl with | [_], _ => rfl
  obtain ⟨fdLForm, F0LForm⟩ := cd.def_ 16 (d := dX "_law_form" sLForm) rfl
  have FLForm : Fun K "_law_form" "_law_form" sLForm (He.ga K "_law_form") fdLForm := He5.fun_of F0LForm
  have bLForm : Binds K fdLForm ["_law_word_here"] [] := FLForm.binds fun _ _ _ _ _ _ us hl => match us, hl with | [_], _ => rfl
  obtain ⟨fdLNumberOf, F0LNumberOf⟩ := cd.def_ 17 (d := dX "_law_number_of" sLNumberOf) rfl
  have FLNumberOf : Fun K "_law_number_of" "_law_number_of" sLNumberOf (He.ga K "_law_number_of") fdLNumberOf := He5.fun_of F0LNumberOf
  have bLNumberOf : Binds K fdLNumberOf ["_law_word_here"] [] := FLNumberOf.binds fun _ _ _ _ _ _ us hl => match us, hl with | [_], _ => rfl
  obtain ⟨fdLLine, F0LLine⟩ := cd.def_ 18 (d := dX "_law_line" sLLine) rfl
  have FLLine : Fun K "_law_line" "_law_line" sLLine (He.ga K "_law_line") fdLLine := He5.fun_of F0LLine
  have bLLine : Binds K fdLLine ["_law_m"] [] := FLLine.binds fun _ _ _ _ _ _ us hl => match us, hl with | [_], _ => rfl
  obtain ⟨fdLHead, F0LHead⟩ := cd.def_ 19 (d := dX "_law_head" sLHead) rfl
  have FLHead : Fun K "_law_head" "_law_head" sLHead (He.ga K "_law_head") fdLHead := He5.fun_of F0LHead
  have bLHead : Binds K fdLHead ["_law_m", "_law_deep"] [] := FLHead.binds fun _ _ _ _ _ _ us hl => match us, hl with | [_, _], _ => rfl
  obtain ⟨fdLReadBlock, F0LReadBlock⟩ := cd.def_ 20 (d := dX "_law_read_block" sLReadBlock) rfl
  have FLReadBlock : Fun K "_law_read_block" "_law_read_block" sLReadBlock (He.ga K "_law_read_block") fdLReadBlock := He5.fun_of F0LReadBlock
  have bLReadBlock : Binds K fdLReadBlock ["_law_m", "_law_deep"] [] := FLReadBlock.binds fun _ _ _ _ _ _ us hl => match us, hl with | [_, _], _ => rfl
  obtain ⟨fdLRead, F0LRead⟩ := cd.def_ 21 (d := dX "_law_read" sLRead) rfl
  have FLRead : Fun K "_law_read" "_law_read" sLRead (He.ga K "_law_read") fdLRead := He5.fun_of F0LRead
  have bLRead : Binds K fdLRead ["_law_text_here"] [] := FLRead.binds fun _ _ _ _ _ _ us hl => match us, hl with | [_], _ => rfl
  obtain ⟨fdLIsRow, F0LIsRow⟩ := cd.def_ 22 (d := dX "_law_is_row" sLIsRow) rfl
  have FLIsRow : Fun K "_law_is_row" "_law_is_row" sLIsRow (He.ga K "_law_is_row") fdLIsRow := He5.fun_of F0LIsRow
  have bLIsRow : Binds K fdLIsRow ["_law_thing", "_law_in_make"] [] := FLIsRow.binds fun _ _ _ _ _ _ us hl => match us, hl with | [_, _], _ => rfl
  obtain ⟨fdLFirstWrong, F0LFirstWrong⟩ := cd.def_ 23 (d := dX "_law_first_wrong" sLFirstWrong) rfl
  have FLFirstWrong : Fun K "_law_first_wrong" "_law_first_wrong" sLFirstWrong (He.ga K "_law_first_wrong") fdLFirstWrong := He5.fun_of F0LFirstWrong
  have bLFirstWrong : Binds K fdLFirstWrong ["_law_rows", "_law_ahead", "_law_in_make"] [] := FLFirstWrong.binds fun _ _ _ _ _ _ us hl => match us, hl with | [_, _, _], _ => rfl
  obtain ⟨fdLWithin, F0LWithin⟩ := cd.def_ 24 (d := dX "_law_within" sLWithin) rfl
  have FLWithin : Fun K "_law_within" "_law_within" sLWithin (He.ga K "_law_within") fdLWithin := He5.fun_of F0LWithin
  have bLWithin : Binds K fdLWithin ["_law_library_here"] [] := FLWithin.binds fun _ _ _ _ _ _ us hl => match us, hl with | [_], _ => rfl
  obtain ⟨fdLDue, F0LDue⟩ := cd.def_ 25 (d := dX "_law_due" sLDue) rfl
  have FLDue : Fun K "_law_due" "_law_due" sLDue (He.ga K "_law_due") fdLDue := He5.fun_of F0LDue
  have bLDue : Binds K fdLDue ["_law_text_here"] [] := FLDue.binds fun _ _ _ _ _ _ us hl => match us, hl with | [_], _ => rfl
  obtain ⟨fdLTried, F0LTried⟩ := cd.def_ 26 (d := dX "_law_tried" sLTried) rfl
  have FLTried : Fun K "_law_tried" "_law_tried" sLTried (He.ga K "_law_tried") fdLTried := He5.fun_of F0LTried
  have bLTried : Binds K fdLTried ["_law_deed"] [] := FLTried.binds fun _ _ _ _ _ _ us hl => match us, hl with | [_], _ => rfl
  obtain ⟨fdLTold, F0LTold⟩ := cd.def_ 27 (d := dX "_law_told" sLTold) rfl
  have FLTold : Fun K "_law_told" "_law_told" sLTold (He.ga K "_law_told") fdLTold := He5.fun_of F0LTold
  have bLTold : Binds K fdLTold ["_law_program"] [] := FLTold.binds fun _ _ _ _ _ _ us hl => match us, hl with | [_], _ => rfl
  obtain ⟨fdLRight, F0LRight⟩ := cd.def_ 28 (d := dX "_law_right" sLRight) rfl
  have FLRight : Fun K "_law_right" "_law_right" sLRight (He.ga K "_law_right") fdLRight := He5.fun_of F0LRight
  have bLRight : Binds K fdLRight ["_law_text_here"] [] := FLRight.binds fun _ _ _ _ _ _ us hl => match us, hl with | [_], _ => rfl
  obtain ⟨fdLSpoilt, F0LSpoilt⟩ := cd.def_ 29 (d := dX "_law_spoilt" sLSpoilt) rfl
  have FLSpoilt : Fun K "_law_spoilt" "_law_spoilt" sLSpoilt (He.ga K "_law_spoilt") fdLSpoilt := He5.fun_of F0LSpoilt
  have bLSpoilt : Binds K fdLSpoilt ["_law_source_here", "_law_text_here"] [] := FLSpoilt.binds fun _ _ _ _ _ _ us hl => match us, hl with | [_, _], _ => rfl
  obtain ⟨fdLaw, F0Law⟩ := cd.def_ 30 (d := dX "law" sLaw) rfl
  have FLaw : Fun K "law" "law" sLaw (He.ga K "law") fdLaw := He5.fun_of F0Law
  have bLaw : Binds K fdLaw ["_law_script"] [] := FLaw.binds fun _ _ _ _ _ _ us hl => match us, hl with | [_], _ => rfl
  obtain ⟨fdIsInteger, F0IsInteger⟩ := cd.def_ 31 (d := dX "is_integer" sIsInteger) rfl
  have FIsInteger : Fun K "is_integer" "is_integer" sIsInteger (He.ga K "is_integer") fdIsInteger := He5.fun_of F0IsInteger
  have bIsInteger : Binds K fdIsInteger ["thing"] [] := FIsInteger.binds fun _ _ _ _ _ _ us hl => match us, hl with | [_], _ => rfl
  obtain ⟨fdIsWord, F0IsWord⟩ := cd.def_ 32 (d := dX "is_word" sIsWord) rfl
  have FIsWord : Fun K "is_word" "is_word" sIsWord (He.ga K "is_word") fdIsWord := He5.fun_of F0IsWord
  have bIsWord : Binds K fdIsWord ["thing"] [] := FIsWord.binds fun _ _ _ _ _ _ us hl => match us, hl with | [_], _ => rfl
  obtain ⟨fdIsField, F0IsField⟩ := cd.def_ 33 (d := dX "is_field" sIsField) rfl
  have FIsField : Fun K "is_field" "is_field" sIsField (He.ga K "is_field") fdIsField := He5.fun_of F0IsField
  have bIsField : Binds K fdIsField ["field", "part"] [] := FIsField.binds fun _ _ _ _ _ _ us hl => match us, hl with | [_, _], _ => rfl
  obtain ⟨fdIsRow, F0IsRow⟩ := cd.def_ 34 (d := dX "is_row" sIsRow) rfl
  have FIsRow : Fun K "is_row" "is_row" sIsRow (He.ga K "is_row") fdIsRow := He5.fun_of F0IsRow
  have bIsRow : Binds K fdIsRow ["thing", "is_within"] [] := FIsRow.binds fun _ _ _ _ _ _ us hl => match us, hl with | [_, _], _ => rfl
  obtain ⟨fdBlocksOf, F0BlocksOf⟩ := cd.def_ 35 (d := dX "blocks_of" sBlocksOf) rfl
  have FBlocksOf : Fun K "blocks_of" "blocks_of" sBlocksOf (He.ga K "blocks_of") fdBlocksOf := He5.fun_of F0BlocksOf
  have bBlocksOf : Binds K fdBlocksOf ["row"] [] := FBlocksOf.binds fun _ _ _ _ _ _ us hl => match us, hl with | [_], _ => rfl
  obtain ⟨fdFirstWrong, F0FirstWrong⟩ := cd.def_ 36 (d := dX "first_wrong" sFirstWrong) rfl
  have FFirstWrong : Fun K "first_wrong" "first_wrong" sFirstWrong (He.ga K "first_wrong") fdFirstWrong := He5.fun_of F0FirstWrong
  have bFirstWrong : Binds K fdFirstWrong ["rows", "path", "is_within"] [] := FFirstWrong.binds fun _ _ _ _ _ _ us hl => match us, hl with | [_, _, _], _ => rfl
  obtain ⟨fdCheckModules, F0CheckModules⟩ := cd.def_ 37 (d := dX "check_modules" sCheckModules) rfl
  have FCheckModules : Fun K "check_modules" "check_modules" sCheckModules (He.ga K "check_modules") fdCheckModules := He5.fun_of F0CheckModules
  have bCheckModules : Binds K fdCheckModules ["modules"] [] := FCheckModules.binds fun _ _ _ _ _ _ us hl => match us, hl with | [_], _ => rfl
  obtain ⟨fdFrozen, F0Frozen⟩ := cd.def_ 38 (d := dX "frozen" sFrozen) rfl
  have FFrozen : Fun K "frozen" "frozen" sFrozen (He.ga K "frozen") fdFrozen := He5.fun_of F0Frozen
  have bFrozen : Binds K fdFrozen ["rows"] [] := FFrozen.binds fun _ _ _ _ _ _ us hl => match us, hl with | [_], _ => rfl
  obtain ⟨fdWalked, F0Walked⟩ := cd.def_ 39 (d := dX "walked" sWalked) rfl
  have FWalked : Fun K "walked" "walked" sWalked (He.ga K "walked") fdWalked := He5.fun_of F0Walked
  have bWalked : Binds K fdWalked ["rows", "path"] [] := FWalked.binds fun _ _ _ _ _ _ us hl => match us, hl with | [_, _], _ => rfl
  obtain ⟨fdIsWritten, F0IsWritten⟩ := cd.def_ 40 (d := dX "is_written" sIsWritten) rfl
  have FIsWritten : Fun K "is_written" "is_written" sIsWritten (He.ga K "is_written") fdIsWritten := He5.fun_of F0IsWritten
  have bIsWritten : Binds K fdIsWritten ["field", "part"] [] := FIsWritten.binds fun _ _ _ _ _ _ us hl => match us, hl with | [_, _], _ => rfl
  obtain ⟨fdNumberOf, F0NumberOf⟩ := cd.def_ 41 (d := dX "number_of" sNumberOf) rfl
  have FNumberOf : Fun K "number_of" "number_of" sNumberOf (He.ga K "number_of") fdNumberOf := He5.fun_of F0NumberOf
  have bNumberOf : Binds K fdNumberOf ["part"] [] := FNumberOf.binds fun _ _ _ _ _ _ us hl => match us, hl with | [_], _ => rfl
  obtain ⟨fdReadRow, F0ReadRow⟩ := cd.def_ 42 (d := dX "read_row" sReadRow) rfl
  have FReadRow : Fun K "read_row" "read_row" sReadRow (He.ga K "read_row") fdReadRow := He5.fun_of F0ReadRow
  have bReadRow : Binds K fdReadRow ["lines", "at", "indent"] [] := FReadRow.binds fun _ _ _ _ _ _ us hl => match us, hl with | [_, _, _], _ => rfl
  obtain ⟨fdStandsAt, F0StandsAt⟩ := cd.def_ 43 (d := dX "stands_at" sStandsAt) rfl
  have FStandsAt : Fun K "stands_at" "stands_at" sStandsAt (He.ga K "stands_at") fdStandsAt := He5.fun_of F0StandsAt
  have bStandsAt : Binds K fdStandsAt ["lines", "at", "indent"] [] := FStandsAt.binds fun _ _ _ _ _ _ us hl => match us, hl with | [_, _, _], _ => rfl
  obtain ⟨fdReadRows, F0ReadRows⟩ := cd.def_ 44 (d := dX "read_rows" sReadRows) rfl
  have FReadRows : Fun K "read_rows" "read_rows" sReadRows (He.ga K "read_rows") fdReadRows := He5.fun_of F0ReadRows
  have bReadRows : Binds K fdReadRows ["lines", "at", "indent"] [] := FReadRows.binds fun _ _ _ _ _ _ us hl => match us, hl with | [_, _, _], _ => rfl
  obtain ⟨fdReadModules, F0ReadModules⟩ := cd.def_ 45 (d := dX "read_modules" sReadModules) rfl
  have FReadModules : Fun K "read_modules" "read_modules" sReadModules (He.ga K "read_modules") fdReadModules := He5.fun_of F0ReadModules
  have bReadModules : Binds K fdReadModules ["text"] [] := FReadModules.binds fun _ _ _ _ _ _ us hl => match us, hl with | [_], _ => rfl
  obtain ⟨fdProgramInit, F0ProgramInit⟩ := cd.def_ 46 (d := dM "Program" "__init__" "Program.__init__" sProgramInit) rfl
  have FProgramInit : Fun K "__init__" "Program.__init__" sProgramInit (He.ma K (He.ga K "Program") "__init__") fdProgramInit := He5.fun_of F0ProgramInit
  have bProgramInit : Binds K fdProgramInit ["self", "modules"] [] := FProgramInit.binds fun _ _ _ _ _ _ us hl => match us, hl with | [_, _], _ => rfl
  obtain ⟨fdProgramModules, F0ProgramModules⟩ := cd.def_ 47 (d := dM "Program" "modules" "Program.modules" sProgramModules) rfl
  have FProgramModules : Fun K "modules" "Program.modules" sProgramModules (He.ma K (He.ga K "Program") "modules") fdProgramModules := He5.fun_of F0ProgramModules
  have bProgramModules : Binds K fdProgramModules ["self"] [] := FProgramModules.binds fun _ _ _ _ _ _ us hl => match us, hl with | [_], _ => rfl
  obtain ⟨fdProgramRows, F0ProgramRows⟩ := cd.def_ 48 (d := dM "Program" "rows" "Program.rows" sProgramRows) rfl
  have FProgramRows : Fun K "rows" "Program.rows" sProgramRows (He.ma K (He.ga K "Program") "rows") fdProgramRows := He5.fun_of F0ProgramRows
  have bProgramRows : Binds K fdProgramRows ["self", "module"] [] := FProgramRows.binds fun _ _ _ _ _ _ us hl => match us, hl with | [_, _], _ => rfl
  obtain ⟨fdBadProgramInit, F0BadProgramInit⟩ := cd.def_ 49 (d := dM "BadProgram" "__init__" "BadProgram.__init__" sBadProgramInit) rfl
  have FBadProgramInit : Fun K "__init__" "BadProgram.__init__" sBadProgramInit (He.ma K (He.ga K "BadProgram") "__init__") fdBadProgramInit := He5.fun_of F0BadProgramInit
  have bBadProgramInit : Binds K fdBadProgramInit ["self", "module", "path"] [] := FBadProgramInit.binds fun _ _ _ _ _ _ us hl => match us, hl with | [_, _, _], _ => rfl
  obtain ⟨fdBadTextInit, F0BadTextInit⟩ := cd.def_ 50 (d := dM "BadText" "__init__" "BadText.__init__" sBadTextInit) rfl
  have FBadTextInit : Fun K "__init__" "BadText.__init__" sBadTextInit (He.ma K (He.ga K "BadText") "__init__") fdBadTextInit := He5.fun_of F0BadTextInit
  have bBadTextInit : Binds K fdBadTextInit ["self", "line"] [] := FBadTextInit.binds fun _ _ _ _ _ _ us hl => match us, hl with | [_, _], _ => rfl
  obtain ⟨fdBadWordInit, F0BadWordInit⟩ := cd.def_ 51 (d := dM "BadWord" "__init__" "BadWord.__init__" sBadWordInit) rfl
  have FBadWordInit : Fun K "__init__" "BadWord.__init__" sBadWordInit (He.ma K (He.ga K "BadWord") "__init__") fdBadWordInit := He5.fun_of F0BadWordInit
  have bBadWordInit : Binds K fdBadWordInit ["self", "word"] [] := FBadWordInit.binds fun _ _ _ _ _ _ us hl => match us, hl with | [_, _], _ => rfl
  have mLSource : mg ("_law_source" : Str) = some (.ref (He.ga K "_law_source")) := He.glo_ok X G (cd.fact 0 (f := .glo "_law_source") rfl)
  have mLDraw : mg ("_law_draw" : Str) = some (.ref (He.ga K "_law_draw")) := He.glo_ok X G (cd.fact 1 (f := .glo "_law_draw") rfl)
  have mLPick : mg ("_law_pick" : Str) = some (.ref (He.ga K "_law_pick")) := He.glo_ok X G (cd.fact 2 (f := .glo "_law_pick") rfl)
  have mLSame : mg ("_law_same" : Str) = some (.ref (He.ga K "_law_same")) := He.glo_ok X G (cd.fact 3 (f := .glo "_law_same") rfl)
  have mLWord : mg ("_law_word" : Str) = some (.ref (He.ga K "_law_word")) := He.glo_ok X G (cd.fact 4 (f := .glo "_law_word") rfl)
  have mLNumber : mg ("_law_number" : Str) = some (.ref (He.ga K "_law_number")) := He.glo_ok X G (cd.fact 5 (f := .glo "_law_number") rfl)
  have mLPlainRow : mg ("_law_plain_row" : Str) = some (.ref (He.ga K "_law_plain_row")) := He.glo_ok X G (cd.fact 6 (f := .glo "_law_plain_row") rfl)
  have mLRow : mg ("_law_row" : Str) = some (.ref (He.ga K "_law_row")) := He.glo_ok X G (cd.fact 7 (f := .glo "_law_row") rfl)
  have mLBlock : mg ("_law_block" : Str) = some (.ref (He.ga K "_law_block")) := He.glo_ok X G (cd.fact 8 (f := .glo "_law_block") rfl)
  have mLLibrary : mg ("_law_library" : Str) = some (.ref (He.ga K "_law_library")) := He.glo_ok X G (cd.fact 9 (f := .glo "_law_library") rfl)
  have mLTupled : mg ("_law_tupled" : Str) = some (.ref (He.ga K "_law_tupled")) := He.glo_ok X G (cd.fact 10 (f := .glo "_law_tupled") rfl)
  have mLWalked : mg ("_law_walked" : Str) = some (.ref (He.ga K "_law_walked")) := He.glo_ok X G (cd.fact 11 (f := .glo "_law_walked") rfl)
  have mLBlocks : mg ("_law_blocks" : Str) = some (.ref (He.ga K "_law_blocks")) := He.glo_ok X G (cd.fact 12 (f := .glo "_law_blocks") rfl)
  have mLLines : mg ("_law_lines" : Str) = some (.ref (He.ga K "_law_lines")) := He.glo_ok X G (cd.fact 13 (f := .glo "_law_lines") rfl)
  have mLText : mg ("_law_text" : Str) = some (.ref (He.ga K "_law_text")) := He.glo_ok X G (cd.fact 14 (f := .glo "_law_text") rfl)
  have mLIsWord : mg ("_law_is_word" : Str) = some (.ref (He.ga K "_law_is_word")) := He.glo_ok X G (cd.fact 15 (f := .glo "_law_is_word") rfl)
  have mLForm : mg ("_law_form" : Str) = some (.ref (He.ga K "_law_form")) := He.glo_ok X G (cd.fact 16 (f := .glo "_law_form") rfl)
  have mLNumberOf : mg ("_law_number_of" : Str) = some (.ref (He.ga K "_law_number_of")) := He.glo_ok X G (cd.fact 17 (f := .glo "_law_number_of") rfl)
  have mLLine : mg ("_law_line" : Str) = some (.ref (He.ga K "_law_line")) := He.glo_ok X G (cd.fact 18 (f := .glo "_law_line") rfl)
  have mLHead : mg ("_law_head" : Str) = some (.ref (He.ga K "_law_head")) := He.glo_ok X G (cd.fact 19 (f := .glo "_law_head") rfl)
  have mLReadBlock : mg ("_law_read_block" : Str) = some (.ref (He.ga K "_law_read_block")) := He.glo_ok X G (cd.fact 20 (f := .glo "_law_read_block") rfl)
  have mLRead : mg ("_law_read" : Str) = some (.ref (He.ga K "_law_read")) := He.glo_ok X G (cd.fact 21 (f := .glo "_law_read") rfl)
  have mLIsRow : mg ("_law_is_row" : Str) = some (.ref (He.ga K "_law_is_row")) := He.glo_ok X G (cd.fact 22 (f := .glo "_law_is_row") rfl)
  have mLFirstWrong : mg ("_law_first_wrong" : Str) = some (.ref (He.ga K "_law_first_wrong")) := He.glo_ok X G (cd.fact 23 (f := .glo "_law_first_wrong") rfl)
  have mLWithin : mg ("_law_within" : Str) = some (.ref (He.ga K "_law_within")) := He.glo_ok X G (cd.fact 24 (f := .glo "_law_within") rfl)
  have mLDue : mg ("_law_due" : Str) = some (.ref (He.ga K "_law_due")) := He.glo_ok X G (cd.fact 25 (f := .glo "_law_due") rfl)
  have mLTried : mg ("_law_tried" : Str) = some (.ref (He.ga K "_law_tried")) := He.glo_ok X G (cd.fact 26 (f := .glo "_law_tried") rfl)
  have mLTold : mg ("_law_told" : Str) = some (.ref (He.ga K "_law_told")) := He.glo_ok X G (cd.fact 27 (f := .glo "_law_told") rfl)
  have mLRight : mg ("_law_right" : Str) = some (.ref (He.ga K "_law_right")) := He.glo_ok X G (cd.fact 28 (f := .glo "_law_right") rfl)
  have mLSpoilt : mg ("_law_spoilt" : Str) = some (.ref (He.ga K "_law_spoilt")) := He.glo_ok X G (cd.fact 29 (f := .glo "_law_spoilt") rfl)
  have mLaw : mg ("law" : Str) = some (.ref (He.ga K "law")) := He.glo_ok X G (cd.fact 30 (f := .glo "law") rfl)
  have mIsInteger : mg ("is_integer" : Str) = some (.ref (He.ga K "is_integer")) := He.glo_ok X G (cd.fact 31 (f := .glo "is_integer") rfl)
  have mIsWord : mg ("is_word" : Str) = some (.ref (He.ga K "is_word")) := He.glo_ok X G (cd.fact 32 (f := .glo "is_word") rfl)
  have mIsField : mg ("is_field" : Str) = some (.ref (He.ga K "is_field")) := He.glo_ok X G (cd.fact 33 (f := .glo "is_field") rfl)
  have mIsRow : mg ("is_row" : Str) = some (.ref (He.ga K "is_row")) := He.glo_ok X G (cd.fact 34 (f := .glo "is_row") rfl)
  have mBlocksOf : mg ("blocks_of" : Str) = some (.ref (He.ga K "blocks_of")) := He.glo_ok X G (cd.fact 35 (f := .glo "blocks_of") rfl)
  have mFirstWrong : mg ("first_wrong" : Str) = some (.ref (He.ga K "first_wrong")) := He.glo_ok X G (cd.fact 36 (f := .glo "first_wrong") rfl)
  have mCheckModules : mg ("check_modules" : Str) = some (.ref (He.ga K "check_modules")) := He.glo_ok X G (cd.fact 37 (f := .glo "check_modules") rfl)
  have mFrozen : mg ("frozen" : Str) = some (.ref (He.ga K "frozen")) := He.glo_ok X G (cd.fact 38 (f := .glo "frozen") rfl)
  have mWalked : mg ("walked" : Str) = some (.ref (He.ga K "walked")) := He.glo_ok X G (cd.fact 39 (f := .glo "walked") rfl)
  have mIsWritten : mg ("is_written" : Str) = some (.ref (He.ga K "is_written")) := He.glo_ok X G (cd.fact 40 (f := .glo "is_written") rfl)
  have mNumberOf : mg ("number_of" : Str) = some (.ref (He.ga K "number_of")) := He.glo_ok X G (cd.fact 41 (f := .glo "number_of") rfl)
  have mReadRow : mg ("read_row" : Str) = some (.ref (He.ga K "read_row")) := He.glo_ok X G (cd.fact 42 (f := .glo "read_row") rfl)
  have mStandsAt : mg ("stands_at" : Str) = some (.ref (He.ga K "stands_at")) := He.glo_ok X G (cd.fact 43 (f := .glo "stands_at") rfl)
  have mReadRows : mg ("read_rows" : Str) = some (.ref (He.ga K "read_rows")) := He.glo_ok X G (cd.fact 44 (f := .glo "read_rows") rfl)
  have mReadModules : mg ("read_modules" : Str) = some (.ref (He.ga K "read_modules")) := He.glo_ok X G (cd.fact 45 (f := .glo "read_modules") rfl)
  have z_int : mg ("int" : Str) = none := He.free_ok X G (cd.fact 46 (f := .free "int") rfl)
  have z_len : mg ("len" : Str) = none := He.free_ok X G (cd.fact 47 (f := .free "len") rfl)
  have z_range : mg ("range" : Str) = none := He.free_ok X G (cd.fact 48 (f := .free "range") rfl)
  have z_isinstance : mg ("isinstance" : Str) = none := He.free_ok X G (cd.fact 49 (f := .free "isinstance") rfl)
  have z_tuple : mg ("tuple" : Str) = none := He.free_ok X G (cd.fact 50 (f := .free "tuple") rfl)
  have z_list : mg ("list" : Str) = none := He.free_ok X G (cd.fact 51 (f := .free "list") rfl)
  have z_dict : mg ("dict" : Str) = none := He.free_ok X G (cd.fact 52 (f := .free "dict") rfl)
  have z_str : mg ("str" : Str) = none := He.free_ok X G (cd.fact 53 (f := .free "str") rfl)
  have z_bool : mg ("bool" : Str) = none := He.free_ok X G (cd.fact 54 (f := .free "bool") rfl)
  have z_sorted : mg ("sorted" : Str) = none := He.free_ok X G (cd.fact 55 (f := .free "sorted") rfl)
  have z_zip : mg ("zip" : Str) = none := He.free_ok X G (cd.fact 56 (f := .free "zip") rfl)
  have z_enumerate : mg ("enumerate" : Str) = none := He.free_ok X G (cd.fact 57 (f := .free "enumerate") rfl)
  have z_all : mg ("all" : Str) = none := He.free_ok X G (cd.fact 58 (f := .free "all") rfl)
  have z_max : mg ("max" : Str) = none := He.free_ok X G (cd.fact 59 (f := .free "max") rfl)
  have z_min : mg ("min" : Str) = none := He.free_ok X G (cd.fact 60 (f := .free "min") rfl)
  have z_sum : mg ("sum" : Str) = none := He.free_ok X G (cd.fact 61 (f := .free "sum") rfl)
  have z_any : mg ("any" : Str) = none := He.free_ok X G (cd.fact 62 (f := .free "any") rfl)
  have mProgram : mg ("Program" : Str) = some (.ref (He.ga K "Program")) := He.glo_ok X G (cd.fact 63 (f := .glo "Program") rfl)
  have c_Program : Cls K (He.ga K "Program") := He.cls_ok (cd.fact 64 (f := .cls "Program") rfl)
  have n_Program_rows_of : PySem.W.findIn K (.ref (He.ga K "Program")) "rows_of" = some none := He.eqO_ok (cd.fact 65 (f := .noat "Program" "rows_of") rfl)
  have n_Program_spots : PySem.W.findIn K (.ref (He.ga K "Program")) "spots" = some none := He.eqO_ok (cd.fact 66 (f := .noat "Program" "spots") rfl)
  have k_Program : Mk K (He.ga K "Program") (He.ma K (He.ga K "Program") "__init__") := He.mkr_ok (cd.fact 67 (f := .mkr "Program") rfl)
  have e_Program_modules : Meth K (He.ga K "Program") "modules" (He.ma K (He.ga K "Program") "modules") := He.meth_ok (cd.fact 68 (f := .meth "Program" "modules") rfl)
  have e_Program_rows : Meth K (He.ga K "Program") "rows" (He.ma K (He.ga K "Program") "rows") := He.meth_ok (cd.fact 69 (f := .meth "Program" "rows") rfl)
  have mFIELDS : mg ("FIELDS" : Str) = some (.ref (He.ga K "FIELDS")) := He.glo_ok X G (cd.fact 70 (f := .glo "FIELDS") rfl)
  obtain ⟨tL, mL⟩ : ∃ t, mg ("LETTERS" : Str) = some (.str letters t) := He.str_ok X G (cd.fact 71 (f := .str "LETTERS" letters) rfl)
  obtain ⟨tSTEP, mSTEP⟩ : ∃ t, mg ("STEP" : Str) = some (.str "  " t) := He.str_ok X G (cd.fact 72 (f := .str "STEP" "  ") rfl)
  obtain ⟨tFIGURES, mFIGURES⟩ : ∃ t, mg ("FIGURES" : Str) = some (.str "0123456789" t) := He.str_ok X G (cd.fact 73 (f := .str "FIGURES" "0123456789") rfl)
  have mBadProgram : mg ("BadProgram" : Str) = some (.ref (He.ga K "BadProgram")) := He.glo_ok X G (cd.fact 74 (f := .glo "BadProgram") rfl)
  have n_BadProgram_module : PySem.W.findIn K (.ref (He.ga K "BadProgram")) "module" = some none := He.eqO_ok (cd.fact 75 (f := .noat "BadProgram" "module") rfl)
  have n_BadProgram_path : PySem.W.findIn K (.ref (He.ga K "BadProgram")) "path" = some none := He.eqO_ok (cd.fact 76 (f := .noat "BadProgram" "path") rfl)
  have mBadText : mg ("BadText" : Str) = some (.ref (He.ga K "BadText")) := He.glo_ok X G (cd.fact 77 (f := .glo "BadText") rfl)
  have n_BadText_line : PySem.W.findIn K (.ref (He.ga K "BadText")) "line" = some none := He.eqO_ok (cd.fact 78 (f := .noat "BadText" "line") rfl)
  have mBadWord : mg ("BadWord" : Str) = some (.ref (He.ga K "BadWord")) := He.glo_ok X G (cd.fact 79 (f := .glo "BadWord") rfl)
  have n_BadWord_word : PySem.W.findIn K (.ref (He.ga K "BadWord")) "word" = some none := He.eqO_ok (cd.fact 80 (f := .noat "BadWord" "word") rfl)
  have x_BadProgram_BadProgram : PySem.W.exmOne K (.ref (He.ga K "BadProgram")) (.ref (He.ga K "BadProgram")) = some true := He.exm_ok (cd.fact 81 (f := .exm "BadProgram" "BadProgram" true) rfl)
  have x_BadWord_BadProgram : PySem.W.exmOne K (.ref (He.ga K "BadWord")) (.ref (He.ga K "BadProgram")) = some false := He.exm_ok (cd.fact 82 (f := .exm "BadWord" "BadProgram" false) rfl)
  have x_BadWord_BadText : PySem.W.exmOne K (.ref (He.ga K "BadWord")) (.ref (He.ga K "BadText")) = some false := He.exm_ok (cd.fact 83 (f := .exm "BadWord" "BadText" false) rfl)
  have x_BadWord_BadWord : PySem.W.exmOne K (.ref (He.ga K "BadWord")) (.ref (He.ga K "BadWord")) = some true := He.exm_ok (cd.fact 84 (f := .exm "BadWord" "BadWord" true) rfl)
  have x_BadText_BadProgram : PySem.W.exmOne K (.ref (He.ga K "BadText")) (.ref (He.ga K "BadProgram")) = some false := He.exm_ok (cd.fact 85 (f := .exm "BadText" "BadProgram" false) rfl)
  have x_BadText_BadText : PySem.W.exmOne K (.ref (He.ga K "BadText")) (.ref (He.ga K "BadText")) = some true := He.exm_ok (cd.fact 86 (f := .exm "BadText" "BadText" true) rfl)
  have B : Bl mg := ⟨z_int, z_len, z_range, z_isinstance, z_tuple, z_list, z_dict, z_str, z_bool, z_sorted, z_zip, z_enumerate, z_all, z_max, z_min, z_sum, z_any⟩
  have eT : (hTs.map fun t => He.dicW K (t.1 K)) = hTs.map fun t => some (He.keysIn w.params t.2) := congrArg (fun z : He.AlT => z.2) cT
  have TF : FldT K w mg (He.ga K "FIELDS") := ⟨mFIELDS, cT.tab 0 (t := (fun K => He.ga K "FIELDS", fieldsT.map (·.1))) rfl, fun p hp => fldB_ok (List.all_eq_true.mp x1 p hp), fun z hz => no_key (List.cons.inj eT).1 hz⟩
  have PC : PCls K mg (He.ga K "Program") := ⟨mProgram, c_Program, n_Program_rows_of, n_Program_spots⟩
  have hPW : PlainEq K (He.ga K "Program") := eqpB_ok x2
  obtain ⟨oex_BadProgram, xf_BadProgram, i_BadProgram, t_BadProgram⟩ := errB_ok xoBadProgram
  obtain ⟨oex_BadText, xf_BadText, i_BadText, t_BadText⟩ := errB_ok xoBadText
  obtain ⟨oex_BadWord, xf_BadWord, i_BadWord, t_BadWord⟩ := errB_ok xoBadWord
  have e := hfa.symm.trans mLaw
  cases e
  obtain ⟨ocR, odR, dVR, kVR, docR, pmR, anR, cdvR, ctR, oslR, _, lkR, _⟩ := F0LRight.ex
  refine ⟨hX, mLRight, fdLRight, ocR, odR, oslR, lkR, fdLaw, fun s v => FunD.bindsA (ps := ["_law_script"]) F0Law (fun _ _ _ _ _ _ us hl => match us, hl with | [_], _ => rfl) s [v] rfl, fun c Pt hcode base _ _ TB => ?_⟩
  have gLDraw := own_mk (k := 1) (P := P) (w := w) (base := base) FLDraw mLDraw bLDraw (ok_LDraw FLDraw B)
  have gLSource := own_mk (k := 1) (P := P) (w := w) (base := base) FLSource mLSource bLSource (ok_LSource FLSource B)
  have gLPick := own_mk FLPick mLPick bLPick (ok_LPick FLPick B gLDraw)
  have gLWord := own_mk FLWord mLWord bLWord (ok_LWord FLWord B gLPick)
  have gLNumber := own_mk FLNumber mLNumber bLNumber (ok_LNumber FLNumber B gLPick (gLDraw.mono (by decide)))
  have gLPlainRow := own_mk FLPlainRow mLPlainRow bLPlainRow (ok_LPlainRow FLPlainRow B gLWord gLNumber)
  have gLRow := (rows_ok FLRow FLBlock B mLRow mLBlock bLRow bLBlock gLDraw gLPick gLWord gLPlainRow 3).1
  have gLLibrary := own_mk FLLibrary mLLibrary bLLibrary (ok_LLibrary (k := 11) FLLibrary B (by decide) gLDraw gLWord gLRow)
  have gLTupled := ltupled_ok (P := P) (w := w) (base := base) FLTupled B mLTupled bLTupled 7
  have eP : ErrP P w K mg base (He.ga K "BadProgram") := ⟨oex_BadProgram, mBadProgram, n_BadProgram_module, n_BadProgram_path, ⟨_, _, i_BadProgram, t_BadProgram, ok_BadProgramInit (k := 0) FBadProgramInit oex_BadProgram n_BadProgram_module n_BadProgram_path, bBadProgramInit⟩, xf_BadProgram⟩
  have eT1 : ErrT P w K mg base "BadText" "line" ["self", "line"] (He.ga K "BadText") := ⟨oex_BadText, mBadText, n_BadText_line, ⟨_, _, i_BadText, t_BadText, ok_BadTextInit (k := 0) FBadTextInit oex_BadText n_BadText_line, bBadTextInit⟩, xf_BadText⟩
  have eW : ErrT P w K mg base "BadWord" "word" ["self", "word"] (He.ga K "BadWord") := ⟨oex_BadWord, mBadWord, n_BadWord_word, ⟨_, _, i_BadWord, t_BadWord, ok_BadWordInit (k := 0) FBadWordInit oex_BadWord n_BadWord_word, bBadWordInit⟩, xf_BadWord⟩
  have gIsInteger := own_mk (k := 1) (P := P) (w := w) (base := base) FIsInteger mIsInteger bIsInteger (ok_IsInteger FIsInteger B)
  have gIsWord := own_mk (k := 1) (P := P) (w := w) (base := base) FIsWord mIsWord bIsWord (ok_IsWord FIsWord B mL)
  have gIsField := own_mk FIsField mIsField bIsField (ok_IsField FIsField B gIsWord gIsInteger)
  have gIsRow := own_mk FIsRow mIsRow bIsRow (ok_IsRow FIsRow B TF gIsField)
  have gBlocksOf := own_mk (P := P) (w := w) (base := base) FBlocksOf mBlocksOf bBlocksOf (ok_BlocksOf (k := 0) FBlocksOf B TF)
  have gFirstWrong := firstWrong_ok FFirstWrong B mFirstWrong bFirstWrong (gIsRow.mono (by decide)) gBlocksOf 3
  have gCheckModules := own_mk FCheckModules mCheckModules bCheckModules (ok_CheckModules (k := 8) FCheckModules B (by decide) gIsWord gFirstWrong)
  have gFrozen := frozen_ok (P := P) (w := w) (base := base) FFrozen B TF mFrozen bFrozen 3
  have gWalked := walked_ok FWalked B mWalked bWalked gBlocksOf 3
  have fInit : FnOk P w K mg base CX0 10 (He.ma K (He.ga K "Program") "__init__") fdProgramInit ["self", "modules"] (spProgramInit (He.ga K "Program")) := ok_ProgramInit (k := 9) FProgramInit B PC (by decide) gCheckModules gFrozen gWalked
  have gProgram : OwnC P w K mg base 10 "Program" (He.ga K "Program") ["self", "modules"] (spProgramInit (He.ga K "Program")) := ⟨_, _, k_Program, fInit, mProgram, bProgramInit⟩
  have TR : Tri3 P w K mg base (He.ga K "BadProgram") (He.ga K "BadText") (He.ga K "BadWord") := ⟨eP, eT1, eW, x_BadProgram_BadProgram, x_BadWord_BadProgram, x_BadWord_BadText, x_BadText_BadProgram, x_BadText_BadText, x_BadWord_BadWord⟩
  have gLSame : Own P w K mg base 13 "_law_same" ["_law_found", "_law_due_here"] (spLSame 11) := (lsame_ok FLSame B mLSame bLSame 11).mono (by decide)
  have gLBlocks := own_mk (P := P) (w := w) (base := base) FLBlocks mLBlocks bLBlocks (ok_LBlocks (k := 0) FLBlocks B)
  have gLBlocksG := own_mk (P := P) (w := w) (base := base) FLBlocks mLBlocks bLBlocks (ok_LBlocksG (k := 0) FLBlocks B)
  have gLLines := llines_ok FLLines B mLLines bLLines gLBlocks 3
  have gLText := own_mk FLText mLText bLText (ok_LText (k := 5) FLText B (by decide) gLLines)
  have gm_rows : OwnM P w K mg base 1 (He.ga K "Program") "rows" ["self", "module"] (spProgramRowsR (He.ga K "Program")) _ _ := ⟨c_Program, e_Program_rows, ok_ProgramRowsR (k := 0) FProgramRows B PC, bProgramRows⟩
  have gm_modules : OwnM P w K mg base 1 (He.ga K "Program") "modules" ["self"] (spProgramModules (He.ga K "Program")) _ _ := ⟨c_Program, e_Program_modules, ok_ProgramModules (k := 0) FProgramModules B PC, bProgramModules⟩
  have gIsWritten := own_mk FIsWritten mIsWritten bIsWritten (ok_IsWritten (k := 1) FIsWritten B mFIGURES (by decide) gIsWord)
  have gNumberOf := own_mk (P := P) (w := w) (base := base) FNumberOf mNumberOf bNumberOf (ok_NumberOf (k := 0) FNumberOf B mFIGURES)
  have gStandsAt := own_mk (P := P) (w := w) (base := base) FStandsAt mStandsAt bStandsAt (ok_StandsAt (k := 0) FStandsAt B)
  have rb := readBoth FReadRow FReadRows B TF mSTEP eT1 mReadRow bReadRow mReadRows bReadRows gIsWritten gNumberOf gStandsAt 79
  have gReadRows := own_mk FReadRows mReadRows bReadRows rb.1
  have gEReadRows := ownE_mk FReadRows mReadRows bReadRows rb.1 rb.2
  have fRM := ok_ReadModulesD (k := 4 + 2 * 79) FReadModules B mSTEP (Nat.le_refl _) gIsWord gReadRows
  have gReadModules := own_mk FReadModules mReadModules bReadModules fRM
  have gEReadModules := ownE_mk FReadModules mReadModules bReadModules fRM (ok_ReadModulesE (k := 4 + 2 * 79) FReadModules B mSTEP eT1 (Nat.le_refl _) gIsWord gEReadRows)
  have gBlocksOfG := own_mk (P := P) (w := w) (base := base) FBlocksOf mBlocksOf bBlocksOf (ok_BlocksOfG (k := 0) FBlocksOf B TF)
  have gFirstWrongG := firstWrongG_ok FFirstWrong B mFirstWrong bFirstWrong (gIsRow.mono (by decide)) gBlocksOfG 3
  have gECheckModules := ownE_mk FCheckModules mCheckModules bCheckModules (ok_CheckModules (k := 8) FCheckModules B (by decide) gIsWord gFirstWrong) (ok_CheckModulesB (k := 8) FCheckModules B (by decide) gIsWord gFirstWrongG eP)
  have fInitB := ok_ProgramInitB (C := He.ga K "Program") (k := 9) FProgramInit B (by decide) gECheckModules
  have fRead : FnOk P w K mg base (L2N.CX P w) (13 + 2 * 79) _ fdProgramRead ["cls", "text"] (spReadAll (He.ga K "Program") (He.ga K "BadText") (He.ga K "BadProgram") 79) :=
    fn_orE (fn_any (ok_ProgramReadD (k := 12 + 2 * 79) FProgramRead (by decide) (by decide) k_Program fInit bProgramInit gReadModules)) (fn_orE (ok_ProgramReadT (k := 12 + 2 * 79) FProgramRead (by decide) (by decide) k_Program fInit bProgramInit gEReadModules) (ok_ProgramReadB (k := 12 + 2 * 79) FProgramRead (by decide) (by decide) k_Program fInitB bProgramInit gReadModules))
  have gLTold := own_mk FLTold mLTold bLTold (ok_LTold (k := 1) FLTold B (by decide) gm_modules gm_rows)
  have gLLine := own_mk (P := P) (w := w) (base := base) FLLine mLLine bLLine (ok_LLine (k := 0) FLLine B)
  have gLForm := own_mk (P := P) (w := w) (base := base) FLForm mLForm bLForm (ok_LForm (k := 0) FLForm B)
  have gLIsWord := own_mk (P := P) (w := w) (base := base) FLIsWord mLIsWord bLIsWord (ok_LIsWord (k := 0) FLIsWord B)
  have gLNumberOf := own_mk (P := P) (w := w) (base := base) FLNumberOf mLNumberOf bLNumberOf (ok_LNumberOf (k := 0) FLNumberOf B)
  have gLHead := own_mk FLHead mLHead bLHead (ok_LHead (k := 1) FLHead B (by decide) gLLine gLForm gLNumberOf gLIsWord)
  have gLReadBlock := lreadBlock_ok FLReadBlock B mLReadBlock bLReadBlock gLLine gLForm gLHead 79
  have gLRead : Own P w K mg base (4 + 79) "_law_read" ["_law_text_here"] (spLRead 79) := own_mk FLRead mLRead bLRead (ok_LRead (k := 3 + 79) FLRead B (by decide) gLLine gLIsWord gLReadBlock)
  have gLWalked := lwalkedG_ok FLWalked B mLWalked bLWalked gLBlocksG 79
  have gLWithin : Own P w K mg base (3 + 79) "_law_within" ["_law_library_here"] (spLWithin 79) := own_mk FLWithin mLWithin bLWithin (ok_LWithin (k := 2 + 79) FLWithin B (by decide) gLBlocksG gLWalked)
  have gLIsRow := own_mk FLIsRow mLIsRow bLIsRow (ok_LIsRow (k := 1) FLIsRow B (by decide) gLForm gLIsWord)
  have gLFirstWrong := lfirstWrong_ok FLFirstWrong B mLFirstWrong bLFirstWrong gLIsRow gLBlocksG 3
  have gLDue : Own P w K mg base (9 + 79) "_law_due" ["_law_text_here"] (spLDue 79) := own_mk FLDue mLDue bLDue (ok_LDue (k := 8 + 79) FLDue B (by decide) (by decide) gLRead gLWithin gLFirstWrong gLTupled)
  have gLSpoilt := own_mk FLSpoilt mLSpoilt bLSpoilt (ok_LSpoilt (k := 1) FLSpoilt B (by decide) gLDraw)
  have gLRight := own_mk FLRight mLRight bLRight (ok_LRight (k := 178) (d := 79) (T := [(Pt, qnRight)]) FLRight hcode TB (List.mem_singleton.mpr rfl) (fun p hp _ => by rw [List.mem_singleton.mp hp]) B (by decide) (by decide) gLDue gLSame gLTold FLTried mLTried bLTried TR mProgram CR CM fRead bProgramRead)
  exact ok_law (k := 179) FLaw B (by decide) gLSource gLLibrary gLText gLSpoilt gLRight
end Ft
open PySem PySem.W PySem.Calls PyProof.Rows
set_option maxRecDepth 100000 in
set_option maxHeartbeats 0 in
theorem PySem.Challenge.cw_firsttouch_k12_whole_texts_spoilt_holds : PySem.Challenge.rw_firsttouch_k12_whole_texts_spoilt.Holds := by
  w_on; o_law
  refine HandSHeadRun.head_any (r := Ft.hR) (q := view Ft.hR.prog [58, Ft.lawIx]) (H := Ft.hHk) (ob := Ft.hOb) (M := Ft.topM) (loose := Ft.hNames) (d := HandSHeadRun.topDef Ft.hR.prog Ft.lawIx) (kwd := []) Ft.hOb_eq
    (by kernel_rfl) (fun s => by kernel_rfl) Ft.hRun (by kernel_rfl) (by kernel_rfl) (by kernel_rfl) (by rfl) (by first | assumption | decide +kernel) (by decide +kernel) ⟨rfl, rfl, rfl, rfl, rfl, by decide +kernel⟩ ?hw ?hc
  case hw => w_witness2
  case hc =>
    refine Ft.walk_ofOwnN ["_law_right"] (l := PySem.Challenge.rw_firsttouch_k12_whole_texts_spoilt) (n := 63) (k := 180) (x := "_law_script") (CX := fun _ => L2.CX0) rfl (by decide) (by kernel_rfl) ⟨rfl, by decide, by decide⟩ (by kernel_rfl) ?F (fun _ _ _ _ _ z => z)
    intro w mg fa h Y G hmg0 own
    obtain ⟨K, KX, c⟩ := Y
    have hmg : mg ("law" : PySem.Str) = some (.ref fa) := by
      have e : (HandSHeadRun.topDef Ft.hR.prog Ft.lawIx).name = ("law" : PySem.Str) := by kernel_rfl
      rw [← e]
      exact hmg0
    obtain ⟨hnt, mR, fdR, oc, od, sl, lk, fd, hb, hF⟩ := Ft.facts (P := (PySem.Challenge.rw_firsttouch_k12_whole_texts_spoilt).prog) (w := w) KX G hmg c
    obtain ⟨a1, o, fd2, cc, Pt, hm1, ho, hd, hcd, hC, hP⟩ := own "_law_right" (by simp)
    have e0 := hm1.symm.trans mR
    injection e0 with e0
    injection e0 with e0
    subst e0
    have e1 := KX _ _ lk
    rw [ho] at e1
    obtain rfl := Option.some.inj e1
    cases hd
    have one : ∀ {q : PySem.Addr × PySem.Addr → Prop}, q (cc, Pt) → ∀ p ∈ [(cc, Pt)], q p := fun h p hp => by
      rw [List.mem_singleton.mp hp]; exact h
    exact ⟨K, KX, fd, [(cc, Pt)], Ft.spLaw K [(Pt, Ft.qnRight)], one hP, one (Ft.noTab_ok KX hnt lk hcd hC), one hC, hb, fun H a ns hl _ hT hS => ⟨a, ns, rfl, hS, fun p hp => by
      rw [List.mem_singleton.mp hp]
      exact LamX.TabS.nil (hT _ (List.mem_singleton.mpr rfl)), fun _ => rfl⟩, fun base kb nb hB => hF cc Pt hcd base kb nb (hB _ (List.mem_singleton.mpr rfl))⟩
