import PyProof.Rows.All
import Wide.All
import OpenK.AllK
import Wide.FinOn
import HandS.ForMost
import HandS.Walk
import HandS.Zip
import HandS.IsInst
import KE.GoesMore
import KE.GoesZip
import KE.GoesEnum
import HandS.Codes
import HandS.TupAny
import HandS.Deep
import HandS.Wide
import PySem.Challenge.RW_firsttouch_k04_modules_refused
import HandS.More
import HandS.DictComp
import KE.SortData
import HandS.SuiteRaise
import HandS.ExcCtx
import KE.KExcRaise
import HandS.ExcInit
import HandS.ExcField
import HandS.WordsExc
import HandS.TryMany
import HandS.Lambda
import HandS.RaiseMore
import HandS.Text
import HandS.StrMore
import HandS.Small
import KE.IntTextLaws
import HandS.Call
import HandS.List
import HandS.Replace
import HandS.ReplaceLit
import PyProof.Rows.StrItems
import PyProof.Rows.StrStrike
import HandS.ExcOwn
import HandS.EndOwn
import KE.KeyNested
import KE.KDictKeyed
import HandS.SetFor
import PyProof.SeqRoads2
import HandS.OwnEq
import PyProof.InstNe
import KE.KStateDown
import HandS.Defaults
import HandS.Head0
import HandS.Head1
import HandS.Head2
import HandS.HeadEnd
import HandS.HeadHook1
import HandS.HeadHook2
import HandS.HeadHook3
import HandS.HeadHook4
import HandS.HeadNt
import HandS.ClsMeth
set_option Elab.async false
set_option linter.all false
set_option maxRecDepth 100000
set_option maxHeartbeats 4000000
namespace Ft
open PySem PySem.Spec PyProof.Rows L2
/-- a list (true) or a tuple (false) -/
def Sq (kd : Bool) (K : PySem.W.Frag) (H : Hp) (a : Addr) (xs : List V) : Prop := match kd with
  | true => SqL K H a xs
  | false => SqT K H a xs
def SIter (kd : Bool) (h : Heap) (it l : Addr) (i : Nat) : Prop := match kd with
  | true => h.IsListIter it l i
  | false => h.IsTupleIter it l i
def SAt (kd : Bool) (h : Heap) (l : Addr) (items : Array Value) : Prop := match kd with
  | true => h.IsList l items
  | false => h.IsTuple l items
def sIterO (kd : Bool) (l : Addr) : Obj := match kd with
  | true => { cls := .type "list_iterator", data := .fields #[.ref l, .int 0 0] }
  | false => { cls := .type "tuple_iterator", data := .fields #[.ref l, .int 0 0] }
theorem sdraws (kd : Bool) {prog : Program} {w : World} {A : Around} (hh : A.handled = none) (it l : Addr) (hne : l ≠ it) (items : Array Value) :
    Draws prog w A it [it, l] items.size (fun i v => items[i]? = some v) (fun i h => SIter kd h it l i ∧ SAt kd h l items) := by
  cases kd with
  | true => exact Draws.list hh it l hne items
  | false => exact Draws.tuple hh it l hne items
theorem sbegins (kd : Bool) (l : Addr) (items : Array Value) : Begins (.ref l) (sIterO kd l) fun h => SAt kd h l items := by
  cases kd with
  | true => exact begins_list l items
  | false => exact begins_tuple l items
theorem siter0 {kd : Bool} {h : Heap} {it l : Addr} (e : h.get? it = some (sIterO kd l)) : SIter kd h it l 0 := by
  cases kd with
  | true => exact ⟨_, e, rfl, rfl⟩
  | false => exact ⟨_, e, rfl, rfl⟩
theorem SIter.at {kd : Bool} {h h' : Heap} {it l : Addr} {i : Nat} (x : SIter kd h it l i) (k : ∀ o, h.get? it = some o → h'.get? it = some o) : SIter kd h' it l i := by
  cases kd with
  | true => exact Heap.IsListIter.at x k
  | false => exact Heap.IsTupleIter.at x k
theorem SIter.obj {kd : Bool} {h : Heap} {it l : Addr} {i : Nat} (x : SIter kd h it l i) : ∃ o, h.get? it = some o ∧ ∀ v, o.data ≠ .cell v := by
  cases kd with
  | true =>
    obtain ⟨o, ho, hc, hd⟩ := x
    exact ⟨o, ho, fun v q => by rw [hd] at q; cases q⟩
  | false =>
    obtain ⟨o, ho, hc, hd⟩ := x
    exact ⟨o, ho, fun v q => by rw [hd] at q; cases q⟩
section
variable {X : Cx} {pins : List (Addr × Obj)} {σ : L2.St} {H : Hp} {s : Shared} {a : Addr} {xs ys : List V}
theorem sq_at {kd : Bool} (I : Inv X pins σ H s) (h : Sq kd X.K H a xs) : ∃ its : List Value, Vals xs its ∧ SAt kd s.heap a its.toArray ∧ xs.length ≤ sizeLine := by
  cases kd with
  | true =>
    obtain ⟨its, rv, p, hz⟩ := I.list h
    exact ⟨its, rv, p.isList, hz⟩
  | false =>
    obtain ⟨its, rv, p, hz⟩ := I.tuple h
    exact ⟨its, rv, p, hz⟩
theorem sq_inj {kd : Bool} (I : Inv X pins σ H s) (h : Sq kd X.K H a xs) (h' : Sq kd X.K H a ys) : xs = ys := by
  cases kd with
  | true => exact I.list_inj h h'
  | false => exact I.tuple_inj h h'
theorem SAt.lt {kd : Bool} {h : Heap} {its : Array Value} (x : SAt kd h a its) : a < h.objs.size := by
  cases kd with
  | true => obtain ⟨o, ho, _⟩ := x; exact Heap.lt_size ho
  | false => obtain ⟨o, ho, _⟩ := x; exact Heap.lt_size ho
end
def ItzQ (ka kb : Bool) (K : PySem.W.Frag) (a b : Addr) : It :=
  ⟨fun i H => ∃ (xs ys : List V) (x y : V), Sq ka K H a xs ∧ Sq kb K H b ys ∧ xs[i]? = some x ∧ ys[i]? = some y,
    fun i H v H' => ∃ T x y, v = .ref T ∧ H T = none ∧ H' = upd H T (.tup [x, y]) ∧ (∀ xs, Sq ka K H a xs → xs[i]? = some x) ∧ ∀ ys, Sq kb K H b ys → ys[i]? = some y,
    fun i H => ∃ xs ys : List V, Sq ka K H a xs ∧ Sq kb K H b ys ∧ i ≤ xs.length ∧ i ≤ ys.length ∧ (i = xs.length ∨ i = ys.length)⟩
theorem turn_zipQ {P : Program} {w : World} {K : PySem.W.Frag} {elts : List Expr} {kk : Nat} {tpos : Pos} {ka kb : Bool} {a b z TI TO i1 i2 : Addr} (D : ZipSep2 z TI TO i1 i2 [i1, a] [i2, b]) (na : a ≠ i1) (nb : b ≠ i2) :
    Turn P w K (.Tuple elts kk tpos) (ItzQ ka kb K a b) [z, TI, TO, i1, i2] z (fun i h => IsZip h z TI TO .none ∧ IsTupOf2 h TI (.ref i1) (.ref i2) ∧ (∃ x y, IsTupOf2 h TO x y) ∧ SIter ka h i1 a i ∧ SIter kb h i2 b i) where
  mem := by simp
  obj := fun i h st c hc => by
    obtain ⟨hz, hTI, ⟨x, y, hTO⟩, h1, h2⟩ := st
    have e' : c = z ∨ c = TI ∨ c = TO ∨ c = i1 ∨ c = i2 := by simpa using hc
    rcases e' with q | q | q | q | q
    · rw [q]; exact ⟨_, hz, fun v q => nomatch q⟩
    · rw [q]; exact ⟨_, hTI, fun v q => nomatch q⟩
    · rw [q]; exact ⟨_, hTO, fun v q => nomatch q⟩
    · rw [q]; exact h1.obj
    · rw [q]; exact h2.obj
  keep := fun i h h' st k => by
    obtain ⟨hz, hTI, ⟨x, y, hTO⟩, h1, h2⟩ := st
    exact ⟨k z (by simp) _ hz, k TI (by simp) _ hTI, ⟨x, y, k TO (by simp) _ hTO⟩, h1.at fun o q => k i1 (by simp) o q, h2.at fun o q => k i2 (by simp) o q⟩
  item := by
    intro X hP hw hK hc i pins s σ H E I hf st hg
    subst hP hw hK
    obtain ⟨hz, hTI, ⟨x0, y0, hTO⟩, h1, h2⟩ := st
    obtain ⟨xs, ys, x, y, hqx, hqy, hx, hy⟩ := hg
    obtain ⟨its, rv, p, _⟩ := sq_at I hqx
    obtain ⟨its2, rv2, p2, _⟩ := sq_at I hqy
    have hh : X.A.in1.handled = none := I.ok.hd hc
    have D1 := sdraws ka (prog := X.prog) (w := X.w) hh i1 a na its.toArray
    have D2 := sdraws kb (prog := X.prog) (w := X.w) hh i2 b nb its2.toArray
    obtain ⟨u, hu, ru⟩ := rv.get hx
    obtain ⟨u2, hu2, ru2⟩ := rv2.get hy
    have hzl : z < s.heap.objs.size := Heap.lt_size hz
    have l1 : i < its.toArray.size := by
      have := (List.getElem?_eq_some_iff.mp hu).1
      simpa using this
    have l2 : i < its2.toArray.size := by
      have := (List.getElem?_eq_some_iff.mp hu2).1
      simpa using this
    refine wpAny_pyNext_zipD2_item D D1 D2 hz hTI hTO ⟨h1, p⟩ ⟨h2, p2⟩ l1 l2 fun v1 v2 h' tk e1 e2 z' TO' h1' h2' hT hsz hk => ?_
    have e1' : u = v1 := by
      have q : its[i]? = some v1 := by simpa using e1
      rw [hu] at q; exact Option.some.inj q
    have e2' : u2 = v2 := by
      have q : its2[i]? = some v2 := by simpa using e2
      rw [hu2] at q; exact Option.some.inj q
    subst e1' e2'
    refine ⟨_, rfl, wpAny_letOwnedTupleGo_zip (s := { s with heap := h', toks := tk }) z' fun h'' z'' sb => ?_⟩
    have hT2 : h''.get? s.heap.objs.size = some { cls := .type "tuple", data := .seq #[u, u2] } := (sb.2 _ (Nat.ne_of_gt hzl)).trans hT
    have new : ObjOk X.prog X.w (upd H s.heap.objs.size (.tup [x, y])) h'' s.heap.objs.size (.tup [x, y]) :=
      ⟨by show 2 ≤ sizeLine; decide, [u, u2], .cons ru (.cons ru2 .nil), ⟨_, hT2, rfl, _, rfl⟩⟩
    have I1 : Inv X pins σ (upd H s.heap.objs.size (.tup [x, y])) { s with heap := h'', toks := tk } :=
      I.turnedNew (t' := tk) (ch := [z, TI, TO, i1, i2]) (fun c o hb q => (sb.2 c (fun q' => hb (by simp [q']))).trans (hk c o (fun q' => hb (by simp [q'])) (fun q' => hb (by simp [q'])) (fun q' => hb (by simp [q'])) (fun q' => hb (by simp [q'])) q)) hf (Nat.le_refl _) new
    refine ⟨.ref s.heap.objs.size, _, I1, rfl, ⟨_, x, y, rfl, I.hok.fresh (Nat.le_refl _), rfl, fun l hl => by rw [sq_inj I hl hqx]; exact hx, fun l hl => by rw [sq_inj I hl hqy]; exact hy⟩, ⟨z'', ?_, ⟨u, u2, ?_⟩, ?_, ?_⟩, fun c hcm => ?_⟩
    · exact (sb.2 _ D.TIz).trans (hk _ _ D.TIz D.TITO D.TIi1 D.TIi2 hTI)
    · exact (sb.2 _ D.TOz).trans TO'
    · exact h1'.1.at fun o q => (sb.2 _ D.zi1.symm).trans q
    · exact h2'.1.at fun o q => (sb.2 _ D.zi2.symm).trans q
    · have hlt : c < s.heap.objs.size := by
        have e' : c = z ∨ c = TI ∨ c = TO ∨ c = i1 ∨ c = i2 := by simpa using hcm
        rcases e' with q | q | q | q | q
        · rw [q]; exact hzl
        · rw [q]; exact Heap.lt_size hTI
        · rw [q]; exact Heap.lt_size hTO
        · rw [q]; obtain ⟨_, e1, _⟩ := h1.obj; exact Heap.lt_size e1
        · rw [q]; obtain ⟨_, e2, _⟩ := h2.obj; exact Heap.lt_size e2
      rw [upd_ne (Nat.ne_of_lt hlt)]
      exact (hf c hcm).1
  done := by
    intro X hP hw hK hc i pins s σ H E I hf st hg
    subst hP hw hK
    obtain ⟨hz, hTI, ⟨x0, y0, hTO⟩, h1, h2⟩ := st
    obtain ⟨xs, ys, hqx, hqy, le1, le2, hend⟩ := hg
    obtain ⟨its, rv, p, _⟩ := sq_at I hqx
    obtain ⟨its2, rv2, p2, _⟩ := sq_at I hqy
    have hh : X.A.in1.handled = none := I.ok.hd hc
    have D1 := sdraws ka (prog := X.prog) (w := X.w) hh i1 a na its.toArray
    have D2 := sdraws kb (prog := X.prog) (w := X.w) hh i2 b nb its2.toArray
    have l1 := rv.length
    have l2 := rv2.length
    have z1 : its.toArray.size = its.length := by simp
    have z2 : its2.toArray.size = its2.length := by simp
    exact wpAny_pyNext_zipD2_end D D1 D2 hz hTI hTO ⟨h1, p⟩ ⟨h2, p2⟩ (by omega) (by omega) (by omega) fun h' tk hk => ⟨rfl, I.turnedL (t' := tk) (ch := [z, TI, TO, i1, i2]) (fun c o hb q =>
      hk c o (fun q' => hb (by simp [q'])) (fun q' => hb (by simp [q'])) (fun q' => hb (by simp [q'])) (fun q' => hb (by simp [q'])) q) hf⟩
  self := fun A i s Q E st h => wpAny_pyIter_zip st.1 h
def iZipQ (K : PySem.W.Frag) (ta : TA) : TI := fun σ H R => ta σ H fun vs H1 => ∃ a b ka kb xs ys, vs = [.ref a, .ref b] ∧ Sq ka K H1 a xs ∧ Sq kb K H1 b ys ∧ R (ItzQ ka kb K a b) H1
theorem pi_zipQ {X : Cx} {e e2 : Expr} {ta : TA} {p pos tpos : Pos} {elts : List Expr} {kk : Nat} (hg : Gl X "zip") (hm : X.mg "zip" = none) (ha : PA X [e, e2] ta)
    (hs : starEach [e, e2] X.env = (false, eval e X.env) :: starEach [e2] X.env := by rfl) (hpl : (backTo pos (starEach [e2] X.env)).any (·.1) = false := by rfl) :
    PI X (.Tuple elts kk tpos) (.Call (.Name "zip" p) [e, e2] [] pos) (iZipQ X.K ta) := by
  refine ⟨fun pins s σ H R I h => ?_⟩
  refine Call_ (ld_blt I hg hm PyProof.Rows.boot_zip (PyProof.Rows.callWith_type1 (thn (ha.run pos pins s σ H _ I h) fun us s1 ⟨vs, H1, I1, r1, q1⟩ => ?_) hs hpl))
  obtain ⟨a, b, ka, kb, xs, ys, ex, hqx, hqy, q⟩ := q1
  subst ex
  cases r1 with
  | cons r rr =>
    cases rr with
    | cons r' rr =>
      cases rr
      cases r
      cases r'
      have fresh5 : ∀ c, c ∈ [s1.heap.objs.size + 4, s1.heap.objs.size + 2, s1.heap.objs.size + 3, s1.heap.objs.size, s1.heap.objs.size + 1] → FpOk X pins H1 c := fun c hcm => by
        have e' : c = s1.heap.objs.size + 4 ∨ c = s1.heap.objs.size + 2 ∨ c = s1.heap.objs.size + 3 ∨ c = s1.heap.objs.size ∨ c = s1.heap.objs.size + 1 := by simpa using hcm
        have hle : s1.heap.objs.size ≤ c := by
          rcases e' with z | z | z | z | z
          · rw [z]; exact Nat.le_add_right _ _
          · rw [z]; exact Nat.le_add_right _ _
          · rw [z]; exact Nat.le_add_right _ _
          · rw [z]; exact Nat.le_refl _
          · rw [z]; exact Nat.le_add_right _ _
        exact I1.fpOk hle (I1.hok.fresh hle)
      obtain ⟨its, rv, p1, _⟩ := sq_at I1 hqx
      obtain ⟨its2, rv2, p2, _⟩ := sq_at I1 hqy
      have la := p1.lt
      have lb := p2.lt
      refine zip_begins2 (sbegins ka a its.toArray) (sbegins kb b its2.toArray) p1 p2 fun h' hz hTI hTO h1 h2 hsz hk => wpAny_pyIter_zip hz ?_
      have I2 : Inv X pins σ H1 { s1 with heap := h' } := I1.kept (t' := s1.toks) hk
      have one : ∀ {c d : Addr}, d < s1.heap.objs.size → c ∈ [d] → c < s1.heap.objs.size := fun {c d} hd hc => by
        have e : c = d := by simpa using hc
        rw [e]; exact hd
      exact ⟨s1.heap.objs.size + 4, [s1.heap.objs.size + 4, s1.heap.objs.size + 2, s1.heap.objs.size + 3, s1.heap.objs.size, s1.heap.objs.size + 1], _, _, H1, rfl, I2, turn_zipQ (zip_sep2 (fun c hc => one la hc) (fun c hc => one lb hc)) (Nat.ne_of_lt la) (Nat.ne_of_lt (Nat.lt_succ_of_lt lb)), ⟨hz, hTI, ⟨_, _, hTO⟩, siter0 h1, siter0 h2⟩, fresh5, q⟩
theorem walk_zipQ {K : PySem.W.Frag} {ka kb : Bool} {a b : Addr} {xs ys : List V} {n : Nat} (hn : n = min xs.length ys.length) : Walk (ItzQ ka kb K a b) n (fun H => Sq ka K H a xs ∧ Sq kb K H b ys) (YPair (fun i => xs[i]?) (fun i => ys[i]?)) :=
  ⟨fun i H hi ⟨h1, h2⟩ => ⟨xs, ys, _, _, h1, h2, List.getElem?_eq_getElem (by omega), List.getElem?_eq_getElem (by omega)⟩, fun H ⟨h1, h2⟩ => ⟨xs, ys, h1, h2, by omega, by omega, by omega⟩,
    fun i H x H' hi ⟨h1, h2⟩ ⟨T, u, v, e1, e2, e3, e4, e5⟩ => ⟨T, u, v, e1, e2, e3, e4 _ h1, e5 _ h2⟩⟩
def ItQ (kd : Bool) (K : PySem.W.Frag) (a : Addr) : It := match kd with
  | true => Itl K a
  | false => Itt K a
def iSeq (K : PySem.W.Frag) (te : TE) : TI := fun σ H R => te σ H fun v H1 => ∃ a kd xs, v = .ref a ∧ Sq kd K H1 a xs ∧ R (ItQ kd K a) H1
theorem pi_seq {X : Cx} {tg l : Expr} {tl : TE} (hl : PE X l tl) : PI X tg l (iSeq X.K tl) := by
  refine ⟨fun pins s σ H R I h => ?_⟩
  refine thn (hl.run pins s σ H _ I h) fun v s1 ⟨x, H1, I1, r1, q1⟩ => ?_
  obtain ⟨a, kd, xs, e, hq, q⟩ := q1
  subst e
  cases r1
  cases kd with
  | true =>
    obtain ⟨its, rv, p, hz⟩ := I1.list hq
    refine wpAny_pyIter_list p.isList ?_
    refine ⟨s1.heap.objs.size, [s1.heap.objs.size], _, _, H1, rfl, I1.kept (t' := s1.toks) fun b o e => Heap.get?_push_of_some _ e, turn_list a _, ⟨_, Heap.get?_push_size _ rfl, rfl, rfl⟩, fun b hb => ?_, q⟩
    have e : b = s1.heap.objs.size := by simpa using hb
    subst e
    exact I1.fpOk (Nat.le_refl _) (I1.hok.fresh (Nat.le_refl _))
  | false =>
    obtain ⟨its, rv, p, hz⟩ := I1.tuple hq
    refine wpAny_pyIter_tuple (show s1.heap.IsTuple a its.toArray from p) ?_
    refine ⟨s1.heap.objs.size, [s1.heap.objs.size], _, _, H1, rfl, I1.kept (t' := s1.toks) fun b o e => Heap.get?_push_of_some _ e, turn_tuple a _, ⟨_, Heap.get?_push_size _ rfl, rfl, rfl⟩, fun b hb => ?_, q⟩
    have e : b = s1.heap.objs.size := by simpa using hb
    subst e
    exact I1.fpOk (Nat.le_refl _) (I1.hok.fresh (Nat.le_refl _))
theorem walk_seq {K : PySem.W.Frag} {kd : Bool} {a : Addr} {xs : List V} : Walk (ItQ kd K a) xs.length (fun H => Sq kd K H a xs) (YAt xs) := by
  cases kd with
  | true => exact walk_list
  | false => exact walk_tup
def IteQ (kd : Bool) (K : PySem.W.Frag) (a : Addr) : It :=
  ⟨fun i H => ∃ xs x, Sq kd K H a xs ∧ xs[i]? = some x,
    fun i H v H' => ∃ T x, v = .ref T ∧ H T = none ∧ H' = upd H T (.tup [.int (i : Nat), x]) ∧ ∀ xs, Sq kd K H a xs → xs[i]? = some x,
    fun i H => ∃ xs, Sq kd K H a xs ∧ i = xs.length⟩
theorem turn_enumQ {P : Program} {w : World} {K : PySem.W.Frag} {elts : List Expr} {kk : Nat} {tpos : Pos} {kd : Bool} {a e it : Addr} (na : a ≠ it) (nae : e ≠ a) :
    Turn P w K (.Tuple elts kk tpos) (IteQ kd K a) [e, it] e (fun i h => (∃ old, IsEnum h e it ((i : Nat) : Int) old) ∧ SIter kd h it a i ∧ e ≠ it) where
  mem := by simp
  obj := fun i h st b hb => by
    obtain ⟨⟨old, he⟩, hi, _⟩ := st
    have e' : b = e ∨ b = it := by simpa using hb
    rcases e' with z | z
    · rw [z]; exact ⟨_, he, fun v q => nomatch q⟩
    · rw [z]; exact hi.obj
  keep := fun i h h' st k => let ⟨⟨old, he⟩, hi, hne⟩ := st; ⟨⟨old, k e (by simp) _ he⟩, hi.at fun o q => k it (by simp) o q, hne⟩
  item := by
    intro X hP hw hK hc i pins s σ H E I hf st hg
    subst hP hw hK
    obtain ⟨⟨old, he⟩, hit, hne⟩ := st
    obtain ⟨xs, x, hq, hx⟩ := hg
    obtain ⟨its, rv, p, hz⟩ := sq_at I hq
    obtain ⟨u, hu, ru⟩ := rv.get hx
    have hh : X.A.in1.handled = none := I.ok.hd hc
    have D := sdraws kd (prog := X.prog) (w := X.w) hh it a na its.toArray
    have hel : e < s.heap.objs.size := Heap.lt_size he
    have hil : it < s.heap.objs.size := by obtain ⟨_, q, _⟩ := hit.obj; exact Heap.lt_size q
    have l1 : i < its.toArray.size := by
      have := (List.getElem?_eq_some_iff.mp hu).1
      simpa using this
    refine wpAny_pyNext_enum_itemD D he ⟨hit, p⟩ l1 hne (by simp [hne, nae]) fun v h' tk e1 ho hit' hT hsz hk => ?_
    have e1' : u = v := by
      have q : its[i]? = some v := by simpa using e1
      rw [hu] at q; exact Option.some.inj q
    subst e1'
    refine ⟨_, rfl, wpAny_letOwnedTupleGo_enum (s := { s with heap := h', toks := tk + 1 }) ho fun h'' he' sb => ?_⟩
    have hT2 : h''.get? s.heap.objs.size = some { cls := .type "tuple", data := .seq #[.int i tk, u] } := (sb.2 _ (Nat.ne_of_gt hel)).trans hT
    have new : ObjOk X.prog X.w (upd H s.heap.objs.size (.tup [.int (i : Nat), x])) h'' s.heap.objs.size (.tup [.int (i : Nat), x]) :=
      ⟨by show 2 ≤ sizeLine; decide, [.int i tk, u], .cons ⟨_, rfl⟩ (.cons ru .nil), ⟨_, hT2, rfl, _, rfl⟩⟩
    have I1 : Inv X pins σ (upd H s.heap.objs.size (.tup [.int (i : Nat), x])) { s with heap := h'', toks := tk + 1 } :=
      I.turnedNew (ch := [e, it]) (fun b ob hb q => (sb.2 b (fun z => hb (by simp [z]))).trans (hk b ob (fun z => hb (by simp [z])) (fun z => hb (by simp [z])) q)) hf (Nat.le_refl _) new
    refine ⟨.ref s.heap.objs.size, _, I1, rfl, ⟨_, x, rfl, I.hok.fresh (Nat.le_refl _), rfl, fun ys hy => by rw [sq_inj I hy hq]; exact hx⟩, ⟨⟨u, ?_⟩, hit'.1.at fun o q => (sb.2 it (Ne.symm hne)).trans q, hne⟩, fun b hb => ?_⟩
    · have e1 : ((i + 1 : Nat) : Int) = (i : Int) + 1 := by omega
      rw [e1]; exact he'
    · have hb' : b < s.heap.objs.size := by
        have e' : b = e ∨ b = it := by simpa using hb
        rcases e' with z | z
        · rw [z]; exact hel
        · rw [z]; exact hil
      rw [upd_ne (Nat.ne_of_lt hb')]
      exact (hf b hb).1
  done := by
    intro X hP hw hK hc i pins s σ H E I hf st hg
    subst hP hw hK
    obtain ⟨⟨old, he⟩, hit, hne⟩ := st
    obtain ⟨xs, hq, hx⟩ := hg
    obtain ⟨its, rv, p, hz⟩ := sq_at I hq
    have hh : X.A.in1.handled = none := I.ok.hd hc
    have D := sdraws kd (prog := X.prog) (w := X.w) hh it a na its.toArray
    obtain ⟨f0, f1, f2, f3, f4, f5⟩ := hf it (by simp)
    have hl := rv.length
    have ei : i = its.toArray.size := by simp; omega
    subst ei
    exact wpAny_pyNext_enum_endD D he ⟨hit, p⟩ fun h' eb => ⟨rfl, I.turned (t' := s.toks) (fun b o hb q => eb b o hb q) f0 f1 f3 f4 f5⟩
  self := fun A i s Q E st h => let ⟨⟨_, he⟩, _⟩ := st; wpAny_pyIter_enum he h
theorem meets_enumerate_newB1 {v : Value} {o : Obj} {H : Heap → Prop} (B : Begins v o H) :
    Meets (Builtin.«enumerate.__new__» ⟨[.type "enumerate", v], []⟩) (fun _ R s => H s.heap ∧
      R (.ok (.ret (.ref (s.heap.push o).objs.size))) { s with heap := (s.heap.push o).push { cls := .type "enumerate", data := .fields #[.none, .bool false, .ref s.heap.objs.size, rawInt 0, .none, .none] } }) :=
  .of_wp fun prog w A R s h => by
    obtain ⟨hp, g, d, tk, os⟩ := s; obtain ⟨h1, h⟩ := h
    have hsub := sub_enumerate
    have q1 : ∀ {A' : Around} {E : Value → Shared → Prop} {Q : Value → Shared → Prop}, Q (.ref hp.objs.size) ⟨hp.push o, g, d, tk, os⟩ → wpAny (model prog w) A' (pyIter v) Q E ⟨hp, g, d, tk, os⟩ :=
      fun q => B.iter prog w _ _ ⟨hp, g, d, tk, os⟩ _ h1 q
    wp_walk using q1
    refine wpAny_stack_any fun st => wpAny_pure ?_
    split
    · rename_i c _ _ _ _ _
      cases (c == Value.type "enumerate")
      · wp_walk using q1
        exact ⟨_, rfl, h⟩
      · wp_walk using q1
        exact ⟨_, rfl, h⟩
    · wp_walk using q1
      exact ⟨_, rfl, h⟩
theorem enum_begins1 {prog : Program} {w : World} {A : Around} {E : Value → Shared → Prop} {s : Shared} {v : Value} {o : Obj} {H : Heap → Prop} {Q : Value → Shared → Prop} (B : Begins v o H) (h1 : H s.heap)
    (h : ∀ h', IsEnum h' (s.heap.objs.size + 1) s.heap.objs.size 0 .none → h'.get? s.heap.objs.size = some o → h'.objs.size = s.heap.objs.size + 2 →
      (∀ b o, s.heap.get? b = some o → h'.get? b = some o) → Q (.ref (s.heap.objs.size + 1)) { s with heap := h' }) :
    wpAny (model prog w) A (call (.type "enumerate") [v]) Q E s := by
  refine callType_new F.called_enumerate (by decide) (F.typeCall_enumerate_1 _) (F.newCall_enumerate_1 _) (fun obj => F.args_object_init_2 obj _) F.entry_enumerate_new
    (meets_enumerate_newB1 B) ⟨h1, ?_⟩
  have hz : (s.heap.push o).objs.size = s.heap.objs.size + 1 := Heap.size_push ..
  show _ ∧ _
  rw [hz]
  have he : IsEnum ((s.heap.push o).push { cls := .type "enumerate", data := .fields #[.none, .bool false, .ref s.heap.objs.size, rawInt 0, .none, .none] }) (s.heap.objs.size + 1) s.heap.objs.size 0 .none := by
    have := Heap.get?_push_size (s.heap.push o) (o := { cls := .type "enumerate", data := .fields #[.none, .bool false, .ref s.heap.objs.size, rawInt 0, .none, .none] }) rfl
    rw [hz] at this; exact this
  refine ⟨⟨_, he, rfl⟩, h _ he (Heap.get?_push_of_some _ (Heap.get?_push_size _ B.free)) (by rw [Heap.size_push, hz]) fun b o x => Heap.get?_push_of_some _ (Heap.get?_push_of_some _ x)⟩
def iEnumQ (K : PySem.W.Frag) (ta : TA) : TI := fun σ H R => ta σ H fun vs H1 => ∃ a kd xs, vs = [.ref a] ∧ Sq kd K H1 a xs ∧ R (IteQ kd K a) H1
theorem pi_enumQ {X : Cx} {e : Expr} {ta : TA} {p pos tpos : Pos} {elts : List Expr} {kk : Nat} (hg : Gl X "enumerate") (hm : X.mg "enumerate" = none) (ha : PA X [e] ta) (hs : starEach [e] X.env = [(false, eval e X.env)] := by rfl) :
    PI X (.Tuple elts kk tpos) (.Call (.Name "enumerate" p) [e] [] pos) (iEnumQ X.K ta) := by
  refine ⟨fun pins s σ H R I h => ?_⟩
  refine Call_ (ld_blt I hg hm boot_enumerate (PyProof.Rows.callWith_type1 (thn (ha.run pos pins s σ H _ I h) fun us s1 ⟨vs, H1, I1, r1, q1⟩ => ?_) hs rfl))
  obtain ⟨a, kd, xs, ex, hq, q⟩ := q1
  subst ex
  cases r1 with
  | cons r rr =>
    cases rr
    cases r
    obtain ⟨its, rv, p', hz⟩ := sq_at I1 hq
    have la := p'.lt
    refine enum_begins1 (sbegins kd a its.toArray) p' fun h' he hit hsz hk => wpAny_pyIter_enum he ?_
    have I2 : Inv X pins σ H1 { s1 with heap := h' } := I1.kept (t' := s1.toks) hk
    refine ⟨s1.heap.objs.size + 1, [s1.heap.objs.size + 1, s1.heap.objs.size], _, _, H1, rfl, I2, turn_enumQ (Nat.ne_of_lt la) (Nat.ne_of_gt (Nat.lt_succ_of_lt la)), ⟨⟨.none, he⟩, siter0 hit, Nat.succ_ne_self _⟩, fun b hb => ?_, q⟩
    have e' : b = s1.heap.objs.size + 1 ∨ b = s1.heap.objs.size := by simpa using hb
    have hle : s1.heap.objs.size ≤ b := by
      rcases e' with z | z
      · rw [z]; exact Nat.le_add_right _ _
      · rw [z]; exact Nat.le_refl _
    exact I1.fpOk hle (I1.hok.fresh hle)
theorem walk_enumQ {K : PySem.W.Frag} {kd : Bool} {a : Addr} {xs : List V} : Walk (IteQ kd K a) xs.length (fun H => Sq kd K H a xs) (YPair (fun i => some (.int (i : Nat))) (fun i => xs[i]?)) :=
  ⟨fun i H hi h1 => ⟨xs, _, h1, List.getElem?_eq_getElem hi⟩, fun H h1 => ⟨xs, h1, rfl⟩,
    fun i H x H' hi h1 ⟨T, u, e1, e2, e3, e4⟩ => ⟨T, _, u, e1, e2, e3, rfl, e4 _ h1⟩⟩
end Ft
set_option Elab.async false
set_option linter.all false
set_option maxRecDepth 100000
set_option maxHeartbeats 4000000
namespace Ft
open PySem PySem.Spec PyProof.Rows L2
/-- the built-in names that the text uses are the built-ins -/
structure Bl (mg : Str → Option Value) : Prop where
  int : mg "int" = none
  len : mg "len" = none
  range : mg "range" = none
  isinstance : mg "isinstance" = none
  tuple : mg "tuple" = none
  list : mg "list" = none
  dict : mg "dict" = none
  str : mg "str" = none
  bool : mg "bool" = none
  sorted : mg "sorted" = none
  zip : mg "zip" = none
  enumerate : mg "enumerate" = none
  all : mg "all" = none
  max : mg "max" = none
  min : mg "min" = none
  sum : mg "sum" = none
  any : mg "any" = none
/-- a def of the module that keeps its promise -/
structure Own (P : Program) (w : World) (K : PySem.W.Frag) (mg : Str → Option Value) (base : Heap) (k : Nat) (x : Str) (ps : List Str) (sp : Sp) : Prop where
  ex : ∃ (f : Addr) (fd : FuncData), FnOk P w K mg base CX0 k f fd ps sp ∧ mg x = some (.ref f) ∧ PySem.W.keepIn K (.ref f) = true ∧ Binds K fd ps []
theorem Own.mono {P : Program} {w : World} {K : PySem.W.Frag} {mg : Str → Option Value} {base : Heap} {j k : Nat} {x : Str} {ps : List Str} {sp : Sp} (G : Own P w K mg base j x ps sp) (h : j ≤ k) : Own P w K mg base k x ps sp := by
  obtain ⟨f, fd, F, r⟩ := G.ex
  exact ⟨f, fd, F.mono h, r⟩
theorem Own.imp {P : Program} {w : World} {K : PySem.W.Frag} {mg : Str → Option Value} {base : Heap} {k : Nat} {x : Str} {ps : List Str} {sp sp' : Sp} (G : Own P w K mg base k x ps sp) (h : ∀ vs H Q E, sp' vs H Q E → sp vs H Q E) : Own P w K mg base k x ps sp' := by
  obtain ⟨f, fd, F, r⟩ := G.ex
  exact ⟨f, fd, F.imp h, r⟩
section
variable {X : Cx}
theorem pe_own {e : Expr} {es : List Expr} {t : TA} {p pos : Pos} {k : Nat} {x : Str} {ps : List Str} {sp : Sp} (G : Own X.prog X.w X.K X.mg X.base k x ps sp) (hr : Room k X.A) (hg : Gl X x) (ha : PA X (e :: es) t)
    (hdb : (x == ("__debug__" : Str)) = false := by decide) (he : starEach (e :: es) X.env = (false, eval e X.env) :: starEach es X.env := by rfl) (hpl : (backTo pos (starEach es X.env)).any (·.1) = false := by rfl) :
    PE X (.Call (.Name x p) (e :: es) [] pos) (tCall sp [] E0 t) := by
  obtain ⟨f, fd, F, m, kp, b⟩ := G.ex
  exact pe_call F hr hg m kp b .nil pass0 ha hdb he hpl
end
/-- a statement, then the rest, with a word between them -/
def tCut (t u : TS) : TS := fun D σ H => ∃ Mid : L2.St → Hp → Prop, t { D with nx := Mid } σ H ∧ ∀ σ' H', Mid σ' H' → u D σ' H'
theorem pss_cut {X : Cx} {st : Stmt} {rest : List Stmt} {t u : TS} (h1 : PS X st t) (h2 : PSs X rest u) : PSs X (st :: rest) (tCut t u) := by
  refine ⟨fun pins s σ H D I h => ?_⟩
  obtain ⟨Mid, hm, hu⟩ := h
  refine wpAny_execs_cons (thn (h1.run pins s σ H { D with nx := Mid } I hm) fun f s1 q => ?_)
  cases f with
  | next =>
    obtain ⟨σ', H', I', q⟩ := q
    exact h2.run pins s1 σ' H' D I' (hu σ' H' q)
  | ret v => exact q
  | brk => exact q
  | cont => exact q
/-- an expression with a word behind it -/
def tMid (t : TE) : TE := fun σ H Q => ∃ Mid : V → Hp → Prop, t σ H Mid ∧ ∀ v H', Mid v H' → Q v H'
theorem pe_mid {X : Cx} {e : Expr} {t : TE} (h : PE X e t) : PE X e (tMid t) := by
  refine ⟨fun pins s σ H Q I q => ?_⟩
  obtain ⟨Mid, hm, hu⟩ := q
  refine thn (h.run pins s σ H _ I hm) fun v s1 ⟨x, H1, I1, r1, q1⟩ => ?_
  exact ⟨x, H1, I1, r1, hu _ _ q1⟩
def tMidT (t : TT) : TT := fun σ H Q => ∃ Mid : Bool → Hp → Prop, t σ H Mid ∧ ∀ v H', Mid v H' → Q v H'
theorem pt_mid {X : Cx} {e : Expr} {t : TT} (h : PT X e t) : PT X e (tMidT t) := by
  refine ⟨fun pins s σ H Q I q => ?_⟩
  obtain ⟨Mid, hm, hu⟩ := q
  refine thn (h.run pins s σ H _ I hm) fun v s1 ⟨H1, I1, q1⟩ => ?_
  exact ⟨H1, I1, hu _ _ q1⟩
theorem own_mk {P : Program} {w : World} {K : PySem.W.Frag} {mg : Str → Option Value} {base : Heap} {x : Str} {st : Stmt} {f : Addr} {fd : FuncData} {k : Nat} {ps : List Str} {sp : Sp} (F : Fun K x x st f fd) (m : mg x = some (.ref f)) (b : Binds K fd ps []) (ok : FnOk P w K mg base CX0 k f fd ps sp) : Own P w K mg base k x ps sp :=
  ⟨f, fd, ok, m, F.kp, b⟩
theorem fn_false {P : Program} {w : World} {K : PySem.W.Frag} {mg : Str → Option Value} {base : Heap} {f : Addr} {fd : FuncData} {k : Nat} {ps : List Str} : FnOk P w K mg base CX0 k f fd ps (fun _ _ _ _ => False) :=
  ⟨fun _ _ _ _ h => h.elim, fun _ _ _ _ _ _ _ _ _ _ _ _ _ h => h.elim⟩
theorem ixK {X : Cx} {K : PySem.W.Frag} (r : PySem.W.Frag → R2) (h : IxR X (r X.K)) (e : X.K = K) : IxR X (r K) := by subst e; exact h
theorem opK {X : Cx} {K : PySem.W.Frag} {f : Value → Value → Sem Value} (r : PySem.W.Frag → R2) (h : OpR X f (r X.K)) (e : X.K = K) : OpR X f (r K) := by subst e; exact h
def Fr (ok : Addr → Prop) (H H' : Hp) : Prop := ∀ b o, ok b → H b = some o → H' b = some o
theorem Fr.refl {ok : Addr → Prop} {H : Hp} : Fr ok H H := fun _ _ _ h => h
theorem Fr.trans {ok : Addr → Prop} {H H1 H2 : Hp} (a : Fr ok H H1) (b : Fr ok H1 H2) : Fr ok H H2 := fun c o k h => b c o k (a c o k h)
theorem Fr.new {ok : Addr → Prop} {H : Hp} {p : Addr} {o : HO} (h : H p = none) : Fr ok H (upd H p o) := fun b u _ e => by
  rw [upd_ne (ne_of_none e h)]; exact e
theorem Fr.put {ok : Addr → Prop} {H : Hp} {p : Addr} {o : HO} (h : ¬ ok p) : Fr ok H (upd H p o) := fun b u k e => by
  rw [upd_ne (show b ≠ p from fun z => h (by rw [← z]; exact k))]; exact e
theorem Fr.mono {ok ok' : Addr → Prop} {H H' : Hp} (a : Fr ok H H') (h : ∀ b, ok' b → ok b) : Fr ok' H H' := fun b o k e => a b o (h b k) e
theorem Fr.same {ok : Addr → Prop} {H H' : Hp} (a : Same H H') : Fr ok H H' := fun b o _ e => a b o e
theorem Fr.free {H H' : Hp} {ok : Addr → Prop} (e : Fr ok H H') {l : Addr} (k : ok l) (h : H' l = none) : H l = none := by
  cases q : H l with
  | none => rfl
  | some o => rw [e l o k q] at h; cases h
theorem Fr.upN {ok : Addr → Prop} {G H : Hp} {p : Addr} {o : HO} (a : Fr ok G H) (h : G p = none) : Fr ok G (upd H p o) := fun b u k e => by
  rw [upd_ne (ne_of_none e h)]; exact a b u k e
theorem Same.upN {G H : Hp} {p : Addr} {o : HO} (a : Same G H) (h : G p = none) : Same G (upd H p o) := fun b u e => by
  rw [upd_ne (ne_of_none e h)]; exact a b u e
theorem Fr.freeD {H H' : Hp} {a l : Addr} (e : Fr (· ≠ a) H H') {o : HO} (ha : H' a = some o) (h : H' l = none) : H l = none :=
  e.free (show l ≠ a from fun z => by rw [z, ha] at h; cases h) h
theorem Same.new {H : Hp} {p : Addr} {o : HO} (h : H p = none) : Same H (upd H p o) := fun b u e => by
  rw [upd_ne (ne_of_none e h)]; exact e
def mkO (kd : Bool) (xs : List V) : HO := match kd with
  | true => .lst xs
  | false => .tup xs
theorem sq_of {kd : Bool} {K : PySem.W.Frag} {H : Hp} {a : Addr} {xs : List V} (h : H a = some (mkO kd xs)) : Sq kd K H a xs := by
  cases kd with
  | true => exact SqL.of h
  | false => exact SqT.of h
theorem sqa_of {kd : Bool} {K : PySem.W.Frag} {H : Hp} {a : Addr} {xs : List V} (h : Sq kd K H a xs) : SqL K H a xs ∨ SqT K H a xs := by
  cases kd with
  | true => exact .inl h
  | false => exact .inr h
theorem small {n : Nat} (h : n ≤ 1000000) : n < sizeLine := Nat.lt_of_le_of_lt h (by decide)
theorem smallE {n : Nat} (h : n ≤ 1000000) : n ≤ sizeLine := Nat.le_of_lt (small h)
theorem big {n : Nat} (h : n ≤ 16000000) : n < sizeLine := Nat.lt_of_le_of_lt h (by decide)
theorem bigE {n : Nat} (h : n ≤ 16000000) : n ≤ sizeLine := Nat.le_of_lt (big h)
/-- at a there is a source whose count is n; what may change is the first number and the count -/
def Src (H : Hp) (a : Addr) (n : Int) : Prop := ∃ d s, H a = some (.lst [.int d, .int s, .int n]) ∧ 0 ≤ s ∧ s < 2 ^ 40 ∧ 0 ≤ n
theorem Src.new {H : Hp} {a p : Addr} {n : Int} {o : HO} (x : Src H a n) (h : H p = none) : Src (upd H p o) a n := by
  obtain ⟨d, s, e, r⟩ := x
  exact ⟨d, s, by rw [upd_ne (ne_of_none e h)]; exact e, r⟩
theorem Src.ne {H : Hp} {a p : Addr} {n : Int} {o : HO} (x : Src H a n) (h : a ≠ p) : Src (upd H p o) a n := by
  obtain ⟨d, s, e, r⟩ := x
  exact ⟨d, s, by rw [upd_ne h]; exact e, r⟩
theorem Src.fr {H H' : Hp} {a : Addr} {n : Int} {ok : Addr → Prop} (x : Src H a n) (f : Fr ok H H') (k : ok a) : Src H' a n := by
  obtain ⟨d, s, e, r⟩ := x
  exact ⟨d, s, f _ _ k e, r⟩
theorem Src.is {H : Hp} {a : Addr} {n : Int} (x : Src H a n) : ∃ o, H a = some o := by
  obtain ⟨d, s, e, r⟩ := x
  exact ⟨_, e⟩
theorem Src.nn {H : Hp} {a p : Addr} {n : Int} (x : Src H a n) (h : H p = none) : p ≠ a := by
  obtain ⟨d, s, e, r⟩ := x
  exact (ne_of_none e h).symm
theorem getD_mem {xs : List V} {k : Int} (h0 : 0 ≤ k) (h1 : k < (xs.length : Int)) : ∃ x, atI xs k = some x ∧ x ∈ xs := by
  have hk : k.toNat < xs.length := by omega
  obtain ⟨j, rfl⟩ : ∃ j : Nat, k = (j : Int) := ⟨k.toNat, by omega⟩
  exact ⟨xs[j], atI_nat (List.getElem?_eq_getElem (by omega)), List.getElem_mem _⟩
end Ft
set_option Elab.async false
set_option linter.all false
set_option maxRecDepth 100000
set_option maxHeartbeats 4000000
namespace Ft
open PySem L2
def topS (i : Nat) : Stmt := PySem.Challenge.pw_firsttouch_k04_modules_refused.main.body.getD i (.Pass ⟨0, 0, 0, 0⟩)
end Ft
set_option Elab.async false
set_option linter.all false
set_option maxRecDepth 100000
set_option maxHeartbeats 4000000
namespace Ft
open PySem L2
abbrev sLDraw : Stmt := topS 31
theorem scLDraw : FnScope ["_law_source_here", "_law_many", "_law_digit", "_law_seed"] ["_law_source_here", "_law_many"] (defScope sLDraw) := ⟨rfl, rfl, rfl, by decide +kernel, rfl, by decide +kernel, by decide +kernel⟩
def spLDraw : Sp := fun vs H Q _ => ∃ (a : Addr) (m n : Int), vs = [.ref a, .int m] ∧ Src H a n ∧ n < 2 ^ 40 ∧ 0 < m ∧ m < 2 ^ 60 ∧
  ∀ H' k, Fr (· ≠ a) H H' → Src H' a (n + 1) → 0 ≤ k → k < m → Q (.int k) H'
section
variable {P : Program} {w : World} {K : PySem.W.Frag} {mg : Str → Option Value} {base : Heap}
theorem ok_LDraw {f : Addr} {fd : FuncData} {k : Nat} (F : Fun K "_law_draw" "_law_draw" sLDraw f fd) (B : Bl mg) : FnOk P w K mg base CX0 (k + 1) f fd ["_law_source_here", "_law_many"] spLDraw := by
  refine F.ok scLDraw (fun vs H Q E h => ?_) (fun cdv A outer s H vs Q E hr h => ?_)
  · obtain ⟨a, m, n, rfl, _⟩ := h
    rfl
  obtain ⟨a, m, n, rfl, ⟨d, sd, ha, hs0, hs1, hn0⟩, hn1, hm0, hm1, q⟩ := h
  refine ⟨_, (pss_cons (ps_asg (pe_op op_add (pe_ix ix_list (pv 0) pe_int (fun _ _ => rfl)) pe_int) (pg_sub (pv 0) pe_int set_list))
      (pss_cons (ps_if (pt_cmpR op_gt (pe_ix ix_list (pv 0) pe_int (fun _ _ => rfl)) pe_int (nomark _)) (pss_cons (ps_set (i := 2) scLDraw.nd rfl (by first | exact Or.inl rfl | exact Or.inr rfl) (pe_op op_mod (pe_callTy call_int1 (by rfl) B.int (by decide +kernel) (pa_cons (pe_ix ix_list (pv 0) pe_int (fun _ _ => rfl)) pa_nil)) (pv 1)))
      (pss_cons (ps_asg (pe_op op_fdivW (pe_ix ix_list (pv 0) pe_int (fun _ _ => rfl)) (pv 1)) (pg_sub (pv 0) pe_int set_list))
      (pss_one (ps_ret (pv 2))))) pss_nil)
      (pss_cons (ps_set (i := 3) scLDraw.nd rfl (by first | exact Or.inl rfl | exact Or.inr rfl) (pe_op op_mod (pe_op op_pow (pe_callTy call_int1 (by rfl) B.int (by decide +kernel) (pa_cons (pe_op op_add (pe_ix ix_list (pv 0) pe_int (fun _ _ => rfl)) (pe_op op_mul pe_int (pe_ix ix_list (pv 0) pe_int (fun _ _ => rfl)))) pa_nil)) pe_int) pe_int))
      (pss_one (ps_ret (pe_op op_mod (pe_op op_fdivW (pe_op op_mod (pe_op op_mul (pe_op op_add (pv 3) (pe_ix ix_list (pv 0) pe_int (fun _ _ => rfl))) pe_int) pe_int) pe_int) (pv 1))))))), ?_⟩
  have a0 : ∀ x y z : Int, atI ([.int x, .int y, .int z] : List V) 0 = some (.int x) := fun _ _ _ => rfl
  have a1 : ∀ x y z : Int, atI ([.int x, .int y, .int z] : List V) 1 = some (.int y) := fun _ _ _ => rfl
  have a2 : ∀ x y z : Int, atI ([.int x, .int y, .int z] : List V) 2 = some (.int z) := fun _ _ _ => rfl
  -- the count
  refine ⟨_, rfl, a, _, 2, _, rfl, rfl, SqL.of ha, a2 _ _ _, n, 1, rfl, rfl, _, rfl, a, _, 2, 2, rfl, rfl, ha, rfl, ?_⟩
  have hb : (upd H a (.lst [.int d, .int sd, .int (n + 1)])) a = some (.lst [.int d, .int sd, .int (n + 1)]) := upd_same
  have fb : Fr (· ≠ a) H (upd H a (.lst [.int d, .int sd, .int (n + 1)])) := Fr.put (fun z => z rfl)
  show tSeq _ _ _ _ (upd H a (.lst [.int d, .int sd, .int (n + 1)]))
  -- the digits
  refine ⟨_, rfl, a, _, 0, _, rfl, rfl, SqL.of hb, a0 _ _ _, d, 0, rfl, rfl, _, rfl, ite2 (fun c => ?_) (fun c => ?_)⟩
  · have c' : (0 : Int) < d := of_decide_eq_true c
    refine ⟨_, rfl, a, _, 0, _, rfl, rfl, SqL.of hb, a0 _ _ _, .inl ⟨d, rfl, _, rfl, d, m, rfl, rfl, hm0, ?_⟩⟩
    refine ⟨_, rfl, a, _, 0, _, rfl, rfl, SqL.of hb, a0 _ _ _, _, rfl, d, m, rfl, rfl, wide_div (b := 60) hm0 (by omega) (by decide) (by decide), _, rfl, a, _, 0, 0, rfl, rfl, hb, rfl, ?_⟩
    refine ⟨_, rfl, q _ _ (fb.trans (Fr.put (fun z => z rfl))) ⟨d / m, sd, upd_same, hs0, hs1, by omega⟩ (Int.emod_nonneg _ (by omega)) (Int.emod_lt_of_pos _ hm0)⟩
  · refine ⟨_, rfl, a, _, 1, _, rfl, rfl, SqL.of hb, a1 _ _ _, _, rfl, a, _, 2, _, rfl, rfl, SqL.of hb, a2 _ _ _, 7919, n + 1, rfl, rfl, .inl ⟨by decide, by decide⟩, sd, _, rfl, rfl, .inl ⟨_, rfl, ?_⟩⟩
    refine ⟨_, 5, rfl, rfl, ⟨by decide, by decide, by omega⟩, _, 2147483647, rfl, rfl, (by decide : (0 : Int) < 2147483647), ?_⟩
    have z0 : 0 ≤ (sd + 7919 * (n + 1)) ^ (5 : Int).toNat % 2147483647 := Int.emod_nonneg _ (by decide)
    have z1 : (sd + 7919 * (n + 1)) ^ (5 : Int).toNat % 2147483647 < 2147483647 := Int.emod_lt_of_pos _ (by decide)
    refine ⟨_, rfl, _, rfl, a, _, 2, _, rfl, rfl, SqL.of hb, a2 _ _ _, _, n + 1, rfl, rfl, _, 40692, rfl, rfl, .inl ⟨by omega, by omega⟩, _, 2147483629, rfl, rfl, (by decide : (0 : Int) < 2147483629), _, 16, rfl, rfl, wide_div (b := 5) (by decide) (by decide) (by decide) (by decide), _, rfl, _, m, rfl, rfl, hm0, ?_⟩
    exact q _ _ fb ⟨d, sd, hb, hs0, hs1, by omega⟩ (Int.emod_nonneg _ (by omega)) (Int.emod_lt_of_pos _ hm0)
end
end Ft
set_option Elab.async false
set_option linter.all false
set_option maxRecDepth 100000
set_option maxHeartbeats 4000000
namespace Ft
open PySem L2
section
variable {P : Program} {w : World} {K : PySem.W.Frag} {mg : Str → Option Value} {base : Heap}
abbrev sLSource : Stmt := topS 30
theorem scLSource : FnScope ["_law_script", "_law_k", "_law_cell", "_law_deep"] ["_law_script", "_law_k"] (defScope sLSource) := ⟨rfl, rfl, rfl, by decide +kernel, rfl, by decide +kernel, by decide +kernel⟩
def spLSource (K : PySem.W.Frag) : Sp := fun vs H Q _ => ∃ (a : Addr) (ns : List Int) (k : Int), vs = [.ref a, .int k] ∧ SqL K H a (ns.map V.int) ∧ 0 ≤ k ∧ k ≤ 1000 ∧
  ∀ H' p, Same H H' → H p = none → Src H' p 0 → Q (.ref p) H'
theorem ok_LSource {f : Addr} {fd : FuncData} {k : Nat} (F : Fun K "_law_source" "_law_source" sLSource f fd) (B : Bl mg) : FnOk P w K mg base CX0 (k + 1) f fd ["_law_script", "_law_k"] (spLSource K) := by
  refine F.ok scLSource (fun vs H Q E h => ?_) (fun cdv A outer s H vs Q E hr h => ?_)
  · obtain ⟨a, ns, k, rfl, _⟩ := h
    rfl
  obtain ⟨a, ns, k, rfl, hS, hk0, hk1, q⟩ := h
  refine ⟨_, (pss_cons (ps_set (i := 2) scLSource.nd rfl (by first | exact Or.inl rfl | exact Or.inr rfl) pe_int)
      (pss_cons (ps_set (i := 3) scLSource.nd rfl (by first | exact Or.inl rfl | exact Or.inr rfl) pe_int)
      (pss_cut (ps_if (pt_cmpR op_gt (pe_callB call_len_seq (by rfl) B.len (by decide +kernel) (pa_cons (pv 0) pa_nil)) pe_int (nomark _)) (pss_one (ps_set (i := 2) scLSource.nd rfl (by first | exact Or.inl rfl | exact Or.inr rfl) (pe_ix ix_list (pv 0) (pe_op op_mod (pe_callTy call_int1 (by rfl) B.int (by decide +kernel) (pa_cons (pv 1) pa_nil)) (pe_callB call_len_seq (by rfl) B.len (by decide +kernel) (pa_cons (pv 0) pa_nil))) (fun _ _ => rfl)))) pss_nil)
      (pss_cut (ps_if (PW.pt (pw_and (pt_cmpR op_lt (pv 1) (pe_callB call_len_seq (by rfl) B.len (by decide +kernel) (pa_cons (pv 0) pa_nil)) (nomark _)) (pw_and1 (pt_cmpR op_ge (pv 2) (pe_op op_pow pe_int pe_int) (nomark _))))) (pss_one (ps_set (i := 3) scLSource.nd rfl (by first | exact Or.inl rfl | exact Or.inr rfl) (pv 2))) pss_nil)
      (pss_one (ps_ret (pe_lst (pa_cons (pv 3) (pa_cons (pe_op op_add (pe_op op_add (pe_op op_mod (pe_callTy call_int1 (by rfl) B.int (by decide +kernel) (pa_cons (pv 2) pa_nil)) pe_int) (pe_op op_mul pe_int (pv 1))) pe_int) (pa_cons pe_int pa_nil)))))))))), ?_⟩
  have hl : (ns.map V.int).length = ns.length := List.length_map _
  -- the end, for any cell and any deep
  have fin : ∀ (c d : Int), (∀ p, H p = none → Q (.ref p) (upd H p (.lst [.int d, .int (c % 2147483647 + 7919000 * k + 104729), .int 0]))) := fun c d p np => by
    have z0 : 0 ≤ c % 2147483647 := Int.emod_nonneg _ (by decide)
    have z1 : c % 2147483647 < 2147483647 := Int.emod_lt_of_pos _ (by decide)
    exact q _ p (Same.new np) np ⟨d, _, upd_same, by omega, by omega, by decide⟩
  refine ⟨fun σ H' => H = H' ∧ ∃ c : Int, σ = [some (.ref a), some (.int k), some (.int c), some (.int 0)], ?_, ?_⟩
  · refine ⟨_, rfl, a, _, rfl, .inl hS, _, 0, rfl, rfl, _, rfl, ite2 (fun c => ?_) (fun c => ?_)⟩
    · have c' : (0 : Int) < ((ns.map V.int).length : Nat) := of_decide_eq_true c
      rw [hl] at c'
      have m0 : 0 ≤ k % (ns.length : Int) := Int.emod_nonneg _ (by omega)
      have m1 : k % (ns.length : Int) < (ns.length : Int) := Int.emod_lt_of_pos _ c'
      obtain ⟨x, hx, hm⟩ := getD_mem (xs := ns.map V.int) m0 (by rw [hl]; exact m1)
      obtain ⟨z, _, rfl⟩ := List.mem_map.mp hm
      refine ⟨_, rfl, _, rfl, .inl ⟨k, rfl, _, rfl, a, _, rfl, .inl hS, k, _, rfl, rfl, (by rw [hl]; exact c'), a, _, _, _, rfl, rfl, hS, (by rw [hl]; exact hx), rfl, z, rfl⟩⟩
    · exact ⟨rfl, 0, rfl⟩
  · rintro σ H' ⟨rfl, c, rfl⟩
    refine ⟨fun σ H' => H = H' ∧ ∃ d : Int, σ = [some (.ref a), some (.int k), some (.int c), some (.int d)], ?_, ?_⟩
    · refine ⟨_, rfl, _, rfl, a, _, rfl, .inl hS, k, _, rfl, rfl, _, rfl, ite2 (fun e => ?_) (fun e => ?_)⟩
      · refine ⟨_, rfl, 10, 18, rfl, rfl, ⟨by decide, by decide, by decide⟩, c, _, rfl, rfl, _, rfl, ite2 (fun e => ?_) (fun e => ?_)⟩
        · exact ⟨_, rfl, rfl, c, rfl⟩
        · exact ⟨rfl, 0, rfl⟩
      · exact iteF ⟨rfl, 0, rfl⟩
    · rintro σ H' ⟨rfl, d, rfl⟩
      refine ⟨_, rfl, _, rfl, .inl ⟨c, rfl, c, 2147483647, rfl, rfl, (by decide : (0 : Int) < 2147483647), _, rfl, 7919000, k, rfl, rfl, .inl ⟨by decide, by decide⟩, _, _, rfl, rfl, _, _, rfl, rfl, (by show 3 ≤ sizeLine; decide), ?_⟩⟩
      exact fin c d
abbrev sLPick : Stmt := topS 32
theorem scLPick : FnScope ["_law_source_here", "_law_some"] ["_law_source_here", "_law_some"] (defScope sLPick) := ⟨rfl, rfl, rfl, by decide +kernel, rfl, by decide +kernel, by decide +kernel⟩
def spLPick : Sp := fun vs H Q _ => ∃ (a b : Addr) (xs : List V) (n : Int), vs = [.ref a, .ref b] ∧ Src H a n ∧ n < 2 ^ 40 ∧ b ≠ a ∧ H b = some (.lst xs) ∧ xs ≠ [] ∧ xs.length < 1000000 ∧
  ∀ H' x, Fr (· ≠ a) H H' → Src H' a (n + 1) → x ∈ xs → Q x H'
theorem ok_LPick {f : Addr} {fd : FuncData} {k : Nat} (F : Fun K "_law_pick" "_law_pick" sLPick f fd) (B : Bl mg) (gLDraw : Own P w K mg base k "_law_draw" ["_law_source_here", "_law_many"] spLDraw) : FnOk P w K mg base CX0 (k + 1) f fd ["_law_source_here", "_law_some"] spLPick := by
  refine F.ok scLPick (fun vs H Q E h => ?_) (fun cdv A outer s H vs Q E hr h => ?_)
  · obtain ⟨a, b, xs, n, rfl, _⟩ := h
    rfl
  obtain ⟨a, b, xs, n, rfl, hs, hn, nb, hb, hx, hl, q⟩ := h
  refine ⟨_, (pss_one (ps_ret (pe_ix ix_list (pv 1) (pe_own gLDraw (hr.mono (by omega)) (by rfl) (pa_cons (pv 0) (pa_cons (pe_callB call_len_seq (by rfl) B.len (by decide +kernel) (pa_cons (pv 1) pa_nil)) pa_nil))) (fun _ _ => rfl)))), ?_⟩
  have h0 : 0 < xs.length := List.length_pos_iff.mpr hx
  refine ⟨_, rfl, _, rfl, _, rfl, b, _, rfl, .inl (SqL.of hb), a, _, n, rfl, hs, hn, by omega, by omega, fun H' j fr sr j0 j1 => ?_⟩
  obtain ⟨x, e, m⟩ := getD_mem j0 j1
  exact ⟨b, xs, _, x, rfl, rfl, SqL.of (fr _ _ nb hb), e, q _ _ fr sr m⟩
end
end Ft
set_option Elab.async false
set_option linter.all false
set_option maxRecDepth 100000
set_option maxHeartbeats 4000000
namespace Ft
open PySem L2
/-- a word: one to eight small letters -/
def isW (z : Str) : Bool := decide (1 ≤ z.length) && (decide (z.length ≤ 8) && z.cps.toList.all fun c => decide (97 ≤ c) && decide (c ≤ 122))
theorem inV_iff {z : Str} : ∀ {ws : List Str}, inV (.str z) (ws.map V.str) = decide (z ∈ ws)
  | [] => rfl
  | y :: ws => by
    show (eqV (.str y) (.str z) || inV (.str z) (ws.map V.str)) = _
    rw [inV_iff (ws := ws)]
    show ((y == z) || decide (z ∈ ws)) = _
    by_cases e : z = y
    · subst e; simp
    · have e' : ¬ y = z := fun h => e h.symm
      simp [e, e']
end Ft
set_option Elab.async false
set_option linter.all false
set_option maxRecDepth 100000
set_option maxHeartbeats 4000000
namespace Ft
open PySem L2
section
variable {P : Program} {w : World} {K : PySem.W.Frag} {mg : Str → Option Value} {base : Heap}
abbrev sLWord : Stmt := topS 34
theorem scLWord : FnScope ["_law_source_here", "_law_some"] ["_law_source_here"] (defScope sLWord) := ⟨rfl, rfl, rfl, by decide +kernel, rfl, by decide +kernel, by decide +kernel⟩
def spLWord : Sp := fun vs H Q _ => ∃ (a : Addr) (n : Int), vs = [.ref a] ∧ Src H a n ∧ n < 2 ^ 40 ∧
  ∀ H' z, Fr (· ≠ a) H H' → Src H' a (n + 1) → isW z = true → Q (.str z) H'
def lawWords : List Str := ["a", "b", "c", "x", "yy", "z", "abcdefgh", "else", "nothing", "module", "load", "make", "when", "try"]
theorem lawWords_w : ∀ z ∈ lawWords, isW z = true := by decide +kernel
theorem ok_LWord {f : Addr} {fd : FuncData} {k : Nat} (F : Fun K "_law_word" "_law_word" sLWord f fd) (B : Bl mg) (gLPick : Own P w K mg base k "_law_pick" ["_law_source_here", "_law_some"] spLPick) : FnOk P w K mg base CX0 (k + 1) f fd ["_law_source_here"] spLWord := by
  refine F.ok scLWord (fun vs H Q E h => ?_) (fun cdv A outer s H vs Q E hr h => ?_)
  · obtain ⟨a, n, rfl, _⟩ := h
    rfl
  obtain ⟨a, n, rfl, hs, hn, q⟩ := h
  refine ⟨_, (pss_cons (ps_set (i := 1) scLWord.nd rfl (by first | exact Or.inl rfl | exact Or.inr rfl) (pe_lst (pa_cons pe_str (pa_cons pe_str (pa_cons pe_str (pa_cons pe_str (pa_cons pe_str (pa_cons pe_str (pa_cons pe_str (pa_cons pe_str (pa_cons pe_str (pa_cons pe_str (pa_cons pe_str (pa_cons pe_str (pa_cons pe_str (pa_cons pe_str pa_nil))))))))))))))))
      (pss_one (ps_ret (pe_own gLPick (hr.mono (by omega)) (by rfl) (pa_cons (pv 0) (pa_cons (pv 1) pa_nil)))))), ?_⟩
  refine ⟨(by show 14 ≤ sizeLine; decide), fun p np => ?_⟩
  refine ⟨_, rfl, _, rfl, a, p, lawWords.map V.str, n, rfl, hs.new np, hn, hs.nn np, upd_same, by decide, by decide, fun H' x fr sr hx => ?_⟩
  obtain ⟨z, hz, rfl⟩ := List.mem_map.mp hx
  exact q _ _ ((Fr.new np).trans fr) sr (lawWords_w z hz)
abbrev sLNumber : Stmt := topS 35
theorem scLNumber : FnScope ["_law_source_here"] ["_law_source_here"] (defScope sLNumber) := ⟨rfl, rfl, rfl, by decide +kernel, rfl, by decide +kernel, by decide +kernel⟩
def spLNumber : Sp := fun vs H Q _ => ∃ (a : Addr) (n : Int), vs = [.ref a] ∧ Src H a n ∧ n < 2 ^ 39 ∧
  ∀ H' i, Fr (· ≠ a) H H' → Src H' a (n + 2) → -999 ≤ i → i ≤ 999 → Q (.int i) H'
theorem ok_LNumber {f : Addr} {fd : FuncData} {k : Nat} (F : Fun K "_law_number" "_law_number" sLNumber f fd) (B : Bl mg) (gLPick : Own P w K mg base k "_law_pick" ["_law_source_here", "_law_some"] spLPick) (gLDraw : Own P w K mg base k "_law_draw" ["_law_source_here", "_law_many"] spLDraw) : FnOk P w K mg base CX0 (k + 1) f fd ["_law_source_here"] spLNumber := by
  refine F.ok scLNumber (fun vs H Q E h => ?_) (fun cdv A outer s H vs Q E hr h => ?_)
  · obtain ⟨a, n, rfl, _⟩ := h
    rfl
  obtain ⟨a, n, rfl, hs, hn, q⟩ := h
  refine ⟨_, (pss_one (ps_ret (pe_own gLPick (hr.mono (by omega)) (by rfl) (pa_cons (pv 0) (pa_cons (pe_lst (pa_cons pe_int (pa_cons pe_int (pa_cons (pe_un un_neg pe_int) (pa_cons pe_int (pa_cons pe_int (pa_cons (pe_un un_neg pe_int) (pa_cons pe_int (pa_cons pe_int (pa_cons (pe_un un_neg pe_int) (pa_cons pe_int (pa_cons (pe_un un_neg pe_int) (pa_cons (pe_op op_sub (pe_own gLDraw (hr.mono (by omega)) (by rfl) (pa_cons (pv 0) (pa_cons pe_int pa_nil))) pe_int) pa_nil))))))))))))) pa_nil))))), ?_⟩
  refine ⟨_, rfl, 1, rfl, 10, rfl, 100, rfl, 999, rfl, _, rfl, a, _, n, rfl, hs, by omega, by decide, by decide, fun H1 k1 fr1 sr1 k0 k2 => ?_⟩
  refine ⟨k1, 999, rfl, rfl, (by show 12 ≤ sizeLine; decide), fun p np => ?_⟩
  refine ⟨a, p, ([0, 1, -1, 5, 10, -10, 99, 100, -100, 999, -999, k1 - 999] : List Int).map V.int, _, rfl, sr1.new np, by omega, sr1.nn np, upd_same, by simp, by simp, fun H' x fr sr hx => ?_⟩
  obtain ⟨z, hz, rfl⟩ := List.mem_map.mp hx
  have e : n + 2 = n + 1 + 1 := by omega
  refine q _ _ (fr1.trans ((Fr.new np).trans fr)) (by rw [e]; exact sr) ?_ ?_
  · simp only [List.mem_cons, List.mem_nil_iff, or_false] at hz
    omega
  · simp only [List.mem_cons, List.mem_nil_iff, or_false] at hz
    omega
end
end Ft
set_option Elab.async false
set_option linter.all false
set_option maxRecDepth 100000
set_option maxHeartbeats 4000000
namespace Ft
open PySem L2
inductive Row where
  | plain (w : Str) (fs : List V)
  | make (n : Str) (b : List Row)
  | when (n : Str) (b c : List Row)
  | try_ (b c : List Row)
/-- what stands behind the word of a row without blocks: true: a word, false: a number -/
def plainT : List (Str × List Bool) := [("load", [true, true]), ("pick", [true, true, true]), ("put", [true, false]), ("copy", [true, true]), ("part", [true, true, true]), ("drop", [true]), ("say", [false]), ("tell", [true]), ("seen", [true, true]), ("fail", [false]), ("call", [true])]
def fldOk : Bool → V → Bool
  | true, .str z => isW z
  | false, .int i => decide (-999 ≤ i) && decide (i ≤ 999)
  | _, _ => false
def plainOk (wi : Bool) (w : Str) (fs : List V) : Prop := ∃ ks, (w, ks) ∈ plainT ∧ Paired (fun k v => fldOk k v = true) ks fs ∧ (wi = true → w ≠ "call")
/-- blocks of at most m rows -/
def RowB (m : Nat) : Nat → Bool → Row → Prop
  | _, wi, .plain w fs => plainOk wi w fs
  | d + 1, wi, .make n b => wi = false ∧ isW n = true ∧ b.length ≤ m ∧ ∀ r ∈ b, RowB m d true r
  | d + 1, wi, .when n b c => isW n = true ∧ b.length ≤ m ∧ c.length ≤ m ∧ (∀ r ∈ b, RowB m d wi r) ∧ ∀ r ∈ c, RowB m d wi r
  | d + 1, wi, .try_ b c => b.length ≤ m ∧ c.length ≤ m ∧ (∀ r ∈ b, RowB m d wi r) ∧ ∀ r ∈ c, RowB m d wi r
  | 0, _, _ => False
abbrev RowOk (d : Nat) (wi : Bool) (r : Row) : Prop := RowB 24 d wi r
abbrev RowO8 (d : Nat) (wi : Bool) (r : Row) : Prop := RowB 8 d wi r
theorem RowB.up {m m' : Nat} (hm : m ≤ m') : ∀ {d : Nat} {wi : Bool} {r : Row}, RowB m d wi r → RowB m' d wi r := by
  intro d
  induction d with
  | zero =>
    intro wi r h
    cases r with
    | plain w fs => exact h
    | _ => exact h.elim
  | succ d ih =>
    intro wi r h
    cases r with
    | plain w fs => exact h
    | make n b => exact ⟨h.1, h.2.1, Nat.le_trans h.2.2.1 hm, fun r hr => ih (h.2.2.2 r hr)⟩
    | when n b c => exact ⟨h.1, Nat.le_trans h.2.1 hm, Nat.le_trans h.2.2.1 hm, fun r hr => ih (h.2.2.2.1 r hr), fun r hr => ih (h.2.2.2.2 r hr)⟩
    | try_ b c => exact ⟨Nat.le_trans h.1 hm, Nat.le_trans h.2.1 hm, fun r hr => ih (h.2.2.1 r hr), fun r hr => ih (h.2.2.2 r hr)⟩
theorem RowB.ok {d : Nat} {wi : Bool} {r : Row} (h : RowO8 d wi r) : RowOk d wi r := h.up (by decide)
/-- a sequence of kinds kk at an ok place -/
def At (ok : Addr → Prop) (kk : Bool → Prop) (H : Hp) (v : V) (xs : List V) : Prop := ∃ a kd, v = .ref a ∧ ok a ∧ kk kd ∧ H a = some (mkO kd xs)
def RowAt (ok : Addr → Prop) (kk : Bool → Bool → Prop) (H : Hp) : Nat → V → Row → Prop
  | _, v, .plain w fs => At ok (kk false) H v (.str w :: fs)
  | d + 1, v, .make n b => ∃ vb xs, At ok (kk false) H v [.str "make", .str n, vb] ∧ At ok (kk true) H vb xs ∧ Paired (RowAt ok kk H d) xs b
  | d + 1, v, .when n b c => ∃ vb xs vc ys, At ok (kk false) H v [.str "when", .str n, vb, vc] ∧ At ok (kk true) H vb xs ∧ Paired (RowAt ok kk H d) xs b ∧ At ok (kk true) H vc ys ∧ Paired (RowAt ok kk H d) ys c
  | d + 1, v, .try_ b c => ∃ vb xs vc ys, At ok (kk false) H v [.str "try", vb, vc] ∧ At ok (kk true) H vb xs ∧ Paired (RowAt ok kk H d) xs b ∧ At ok (kk true) H vc ys ∧ Paired (RowAt ok kk H d) ys c
  | 0, _, _ => False
/-- rows of a block or module -/
def RowsAt (ok : Addr → Prop) (kk : Bool → Bool → Prop) (H : Hp) (d : Nat) (v : V) (rs : List Row) : Prop := ∃ xs, At ok (kk true) H v xs ∧ Paired (RowAt ok kk H d) xs rs
/-- what may be read at ok places is kept, and the places are ok' -/
def Keep (ok ok' : Addr → Prop) (H H' : Hp) : Prop := ∀ x kd xs, ok x → H x = some (mkO kd xs) → ok' x ∧ H' x = some (mkO kd xs)
theorem Keep.trans {o1 o2 o3 : Addr → Prop} {H1 H2 H3 : Hp} (a : Keep o1 o2 H1 H2) (b : Keep o2 o3 H2 H3) : Keep o1 o3 H1 H3 := fun x kd xs k h => by
  obtain ⟨k2, h2⟩ := a x kd xs k h
  exact b x kd xs k2 h2
theorem Keep.fr {ok ok' : Addr → Prop} {H H' : Hp} (f : Fr ok H H') (h : ∀ x, ok x → ok' x) : Keep ok ok' H H' := fun x kd xs k e => ⟨h x k, f _ _ k e⟩
theorem Keep.new {ok : Addr → Prop} {H : Hp} {p : Addr} {o : HO} (h : H p = none) : Keep ok ok H (upd H p o) := Keep.fr (Fr.new h) fun _ k => k
theorem Keep.mono {o1 o2 : Addr → Prop} {H : Hp} (h : ∀ x, o1 x → H x ≠ none → o2 x) : Keep o1 o2 H H := fun x kd xs k e => ⟨h x k (by rw [e]; exact fun z => nomatch z), e⟩
theorem At.to {ok ok' : Addr → Prop} {kk : Bool → Prop} {H H' : Hp} {v : V} {xs : List V} (h : At ok kk H v xs) (t : Keep ok ok' H H') : At ok' kk H' v xs := by
  obtain ⟨a, kd, e, k, q, m⟩ := h
  obtain ⟨k', m'⟩ := t a kd xs k m
  exact ⟨a, kd, e, k', q, m'⟩
theorem At.kinds {ok : Addr → Prop} {kk kk' : Bool → Prop} {H : Hp} {v : V} {xs : List V} (h : At ok kk H v xs) (t : ∀ b, kk b → kk' b) : At ok kk' H v xs := by
  obtain ⟨a, kd, e, k, q, m⟩ := h
  exact ⟨a, kd, e, k, t _ q, m⟩
theorem paired_imp {α β : Type} {R S : α → β → Prop} : ∀ {xs : List α} {ys : List β}, Paired R xs ys → (∀ x y, R x y → S x y) → Paired S xs ys
  | _, _, .nil, _ => .nil
  | _, _, .cons r t, f => .cons (f _ _ r) (paired_imp t f)
theorem RowAt.gen {ok ok' : Addr → Prop} {kk kk' : Bool → Bool → Prop} {H H' : Hp} (t : Keep ok ok' H H') (tk : ∀ s b, kk s b → kk' s b) : ∀ (d : Nat) (v : V) (r : Row), RowAt ok kk H d v r → RowAt ok' kk' H' d v r := by
  have g : ∀ {s v xs}, At ok (kk s) H v xs → At ok' (kk' s) H' v xs := fun h => (h.to t).kinds (tk _)
  intro d
  induction d with
  | zero =>
    intro v r h
    cases r with
    | plain w fs => exact g h
    | _ => exact h.elim
  | succ d ih =>
    intro v r h
    cases r with
    | plain w fs => exact g h
    | make n b =>
      obtain ⟨vb, xs, h1, h2, h3⟩ := h
      exact ⟨vb, xs, g h1, g h2, paired_imp h3 ih⟩
    | when n b c =>
      obtain ⟨vb, xs, vc, ys, h1, h2, h3, h4, h5⟩ := h
      exact ⟨vb, xs, vc, ys, g h1, g h2, paired_imp h3 ih, g h4, paired_imp h5 ih⟩
    | try_ b c =>
      obtain ⟨vb, xs, vc, ys, h1, h2, h3, h4, h5⟩ := h
      exact ⟨vb, xs, vc, ys, g h1, g h2, paired_imp h3 ih, g h4, paired_imp h5 ih⟩
theorem RowAt.to {ok ok' : Addr → Prop} {kk : Bool → Bool → Prop} {H H' : Hp} {d : Nat} {v : V} {r : Row} (h : RowAt ok kk H d v r) (t : Keep ok ok' H H') : RowAt ok' kk H' d v r := RowAt.gen t (fun _ _ h => h) d v r h
theorem RowsAt.to {ok ok' : Addr → Prop} {kk : Bool → Bool → Prop} {H H' : Hp} {d : Nat} {v : V} {rs : List Row} (h : RowsAt ok kk H d v rs) (t : Keep ok ok' H H') : RowsAt ok' kk H' d v rs := by
  obtain ⟨xs, h1, h2⟩ := h
  exact ⟨xs, h1.to t, paired_imp h2 fun v r q => q.to t⟩
theorem rowAt_mono {ok : Addr → Prop} {kk : Bool → Bool → Prop} {H : Hp} : ∀ (d : Nat) (v : V) (r : Row), RowAt ok kk H d v r → RowAt ok kk H (d + 1) v r := by
  intro d
  induction d with
  | zero =>
    intro v r h
    cases r with
    | plain w fs => exact h
    | _ => exact h.elim
  | succ d ih =>
    intro v r h
    cases r with
    | plain w fs => exact h
    | make n b =>
      obtain ⟨vb, xs, h1, h2, h3⟩ := h
      exact ⟨vb, xs, h1, h2, paired_imp h3 ih⟩
    | when n b c =>
      obtain ⟨vb, xs, vc, ys, h1, h2, h3, h4, h5⟩ := h
      exact ⟨vb, xs, vc, ys, h1, h2, paired_imp h3 ih, h4, paired_imp h5 ih⟩
    | try_ b c =>
      obtain ⟨vb, xs, vc, ys, h1, h2, h3, h4, h5⟩ := h
      exact ⟨vb, xs, vc, ys, h1, h2, paired_imp h3 ih, h4, paired_imp h5 ih⟩
/-- rows are tuples, blocks are lists -/
def lawK : Bool → Bool → Prop := fun b kd => kd = b
def anyK : Bool → Bool → Prop := fun _ _ => True
theorem paired_len {α β : Type} {R : α → β → Prop} : ∀ {xs : List α} {ys : List β}, Paired R xs ys → xs.length = ys.length
  | _, _, .nil => rfl
  | _, _, .cons _ t => congrArg Nat.succ (paired_len t)
theorem paired_app {α β : Type} {R : α → β → Prop} {x : α} {y : β} (r : R x y) : ∀ {xs : List α} {ys : List β}, Paired R xs ys → Paired R (xs ++ [x]) (ys ++ [y])
  | _, _, .nil => .cons r .nil
  | _, _, .cons q t => .cons q (paired_app r t)
theorem paired_get {α β : Type} {R : α → β → Prop} : ∀ {xs : List α} {ys : List β} {i : Nat} {x : α}, Paired R xs ys → xs[i]? = some x → ∃ y, ys[i]? = some y ∧ R x y
  | _, _, i, x, .nil, e => by simp at e
  | _, _, 0, x, .cons r _, e => by
    have z := Option.some.inj e
    subst z
    exact ⟨_, rfl, r⟩
  | _, _, i + 1, x, .cons _ t, e => paired_get (i := i) t e
theorem paired_getR {α β : Type} {R : α → β → Prop} : ∀ {xs : List α} {ys : List β} {i : Nat} {y : β}, Paired R xs ys → ys[i]? = some y → ∃ x, xs[i]? = some x ∧ R x y
  | _, _, i, x, .nil, e => by simp at e
  | _, _, 0, x, .cons r _, e => by
    have z := Option.some.inj e
    subst z
    exact ⟨_, rfl, r⟩
  | _, _, i + 1, x, .cons _ t, e => paired_getR (i := i) t e
end Ft
set_option Elab.async false
set_option linter.all false
set_option maxRecDepth 100000
set_option maxHeartbeats 4000000
namespace Ft
open PySem L2
section
variable {P : Program} {w : World} {K : PySem.W.Frag} {mg : Str → Option Value} {base : Heap}
abbrev sLPlainRow : Stmt := topS 36
theorem scLPlainRow : FnScope ["_law_source_here", "_law_word_here", "_law_many", "_law_k"] ["_law_source_here", "_law_word_here"] (defScope sLPlainRow) := ⟨rfl, rfl, rfl, by decide +kernel, rfl, by decide +kernel, by decide +kernel⟩
def sayFail : List V := [.str "say", .str "fail"]
def manyT : List (Key × V) := [(Sum.inr "load", .int 2), (Sum.inr "copy", .int 2), (Sum.inr "seen", .int 2), (Sum.inr "pick", .int 3), (Sum.inr "part", .int 3)]
def plainC (p : Str × List Bool) : Bool := if inV (.str p.1) sayFail then decide (p.2 = [false]) else if p.1 = "put" then decide (p.2 = [true, false]) else decide (p.2 = List.replicate p.2.length true) && (decide (p.2.length ≤ 3) && decide ((valV (mergeK [] manyT) (Sum.inr p.1)).getD (.int 1) = .int p.2.length))
theorem plainC_ok : ∀ p ∈ plainT, plainC p = true := by decide +kernel
def spLPlainRow : Sp := fun vs H Q _ => ∃ (a : Addr) (n : Int) (z : Str) (ks : List Bool), vs = [.ref a, .str z] ∧ Src H a n ∧ n < 2 ^ 38 ∧ (z, ks) ∈ plainT ∧
  ∀ H' p fs n', Fr (· ≠ a) H H' → Src H' a n' → n ≤ n' → n' ≤ n + 4 → H p = none → H' p = some (.tup (.str z :: fs)) → Paired (fun k v => fldOk k v = true) ks fs → Q (.ref p) H'
theorem ok_LPlainRow {f : Addr} {fd : FuncData} {k : Nat} (F : Fun K "_law_plain_row" "_law_plain_row" sLPlainRow f fd) (B : Bl mg) (gLWord : Own P w K mg base k "_law_word" ["_law_source_here"] spLWord) (gLNumber : Own P w K mg base k "_law_number" ["_law_source_here"] spLNumber) : FnOk P w K mg base CX0 (k + 1) f fd ["_law_source_here", "_law_word_here"] spLPlainRow := by
  refine F.ok scLPlainRow (fun vs H Q E h => ?_) (fun cdv A outer s H vs Q E hr h => ?_)
  · obtain ⟨a, n, z, ks, rfl, _⟩ := h
    rfl
  obtain ⟨a, n, z, ks, rfl, hs, hn, hz, q⟩ := h
  refine ⟨_, (pss_cons (ps_if (pt_cmpR op_in_seq (pv 1) (pe_tup (pa_cons pe_str (pa_cons pe_str pa_nil))) (by rfl)) (pss_one (ps_ret (pe_tup (pa_cons (pv 1) (pa_cons (pe_own gLNumber (hr.mono (by omega)) (by rfl) (pa_cons (pv 0) pa_nil)) pa_nil))))) pss_nil)
      (pss_cons (ps_if (pt_cmpR op_eq (pv 1) pe_str (nomark _)) (pss_one (ps_ret (pe_tup (pa_cons (pv 1) (pa_cons (pe_own gLWord (hr.mono (by omega)) (by rfl) (pa_cons (pv 0) pa_nil)) (pa_cons (pe_own gLNumber (hr.mono (by omega)) (by rfl) (pa_cons (pv 0) pa_nil)) pa_nil)))))) pss_nil)
      (pss_cons (ps_set (i := 2) scLPlainRow.nd rfl (by first | exact Or.inl rfl | exact Or.inr rfl) (pe_dget2 (hu_of hr) (pe_disp (pps_cons pe_str pe_int (pps_cons pe_str pe_int (pps_cons pe_str pe_int (pps_cons pe_str pe_int (pps_cons pe_str pe_int pps_nil))))) (by rfl) (by rfl) (fun z => by cases z) (by decide)) (pv 1) pe_int ⟨by rfl, by rfl, by rfl, by rfl⟩))
      (pss_one (ps_ret (pe_callTy call_tuple_of (by rfl) B.tuple (by decide +kernel) (pa_cons (pe_op op_cat (pe_lst (pa_cons (pv 1) pa_nil)) (pe_lc (own := [("_law_k", 3)]) (g := (gName 3)) (tt := tYes) (by rfl) scLPlainRow.nd (pi_range1 (by rfl) B.range (pa_cons (pv 2) pa_nil)) (blkOk_by (own := [("_law_k", 3)]) (N := ["_law_source_here", "_law_word_here", "_law_many", "_law_k"]) (sc := defScope sLPlainRow) (by decide +kernel)) (fun _ _ _ _ _ => (pg_name (i := 3) scLPlainRow.nd rfl (by first | exact Or.inl rfl | exact Or.inr rfl))) (fun _ _ _ _ _ => pts_nil) (fun _ _ _ _ _ => (pe_own gLWord (hr.mono (by omega)) (by rfl) (pa_cons (pv 0) pa_nil))))) pa_nil))))))), ?_⟩
  have pc := plainC_ok _ hz
  unfold plainC at pc
  have two : ∀ {x y : V} {p : Addr} {H : Hp}, H p = none → (upd H p (.tup [x, y])) p = some (.tup [x, y]) := fun _ => upd_same
  refine ⟨_, rfl, (by show 2 ≤ sizeLine; decide), fun t0 n0 => ?_⟩
  have f0 : Fr (· ≠ a) H (upd H t0 (.tup sayFail)) := Fr.new n0
  refine ⟨t0, sayFail, rfl, .inr (SqT.of upd_same), rfl, rfl, _, rfl, ite2 (fun c => ?_) (fun c => ?_)⟩
  · -- say, fail
    have c' : inV (.str z) sayFail = true := c
    rw [if_pos c'] at pc
    have ek : ks = [false] := of_decide_eq_true pc
    subst ek
    refine ⟨_, rfl, _, rfl, a, n, rfl, hs.new n0, by omega, fun H' i fr sr i0 i1 => ?_⟩
    refine ⟨(by show 2 ≤ sizeLine; decide), fun p np => ?_⟩
    have np' : H p = none := by
      cases e : H p with
      | none => rfl
      | some o =>
        by_cases ea : p = a
        · obtain ⟨o', eo⟩ := sr.is
          rw [ea, eo] at np; cases np
        · rw [(f0.trans fr) p o ea e] at np; cases np
    exact q _ p [.int i] (n + 2) (f0.trans (fr.trans (Fr.new np))) (sr.new np) (by omega) (by omega) np' upd_same (.cons (by unfold fldOk; simp [i0, i1]) .nil)
  · have c' : inV (.str z) sayFail = false := Bool.eq_false_iff.mpr c
    rw [c', if_neg Bool.false_ne_true] at pc
    refine ⟨_, rfl, rfl, _, rfl, ite2 (fun e => ?_) (fun e => ?_)⟩
    · -- put
      have e' : z = "put" := V.str.inj (of_decide_eq_true e)
      rw [if_pos e'] at pc
      have ek : ks = [true, false] := of_decide_eq_true pc
      subst ek
      refine ⟨_, rfl, _, rfl, a, n, rfl, hs.new n0, by omega, fun H1 y fr1 sr1 hy => ?_⟩
      refine ⟨_, rfl, a, n + 1, rfl, sr1, by omega, fun H' i fr sr i0 i1 => ?_⟩
      refine ⟨(by show 3 ≤ sizeLine; decide), fun p np => ?_⟩
      have np' : H p = none := by
        cases e : H p with
        | none => rfl
        | some o =>
          by_cases ea : p = a
          · obtain ⟨o', eo⟩ := sr.is
            rw [ea, eo] at np; cases np
          · rw [(f0.trans (fr1.trans fr)) p o ea e] at np; cases np
      have en : n + 1 + 2 = n + 3 := by omega
      exact q _ p [.str y, .int i] (n + 3) (f0.trans (fr1.trans (fr.trans (Fr.new np)))) (by rw [← en]; exact sr.new np) (by omega) (by omega) np' upd_same (.cons (by unfold fldOk; exact hy) (.cons (by unfold fldOk; simp [i0, i1]) .nil))
    · -- words
      have e' : ¬ z = "put" := fun h => e (by rw [h]; exact decide_eq_true rfl)
      rw [if_neg e', Bool.and_eq_true, Bool.and_eq_true] at pc
      have ek : ks = List.replicate ks.length true := of_decide_eq_true pc.1
      have e3 : ks.length ≤ 3 := of_decide_eq_true pc.2.1
      have em : (valV (mergeK [] manyT) (Sum.inr z)).getD (.int 1) = .int ks.length := of_decide_eq_true pc.2.2
      generalize ks.length = m at ek e3 em
      subst ek
      refine fun dd nd => ⟨upd_same, manyT, rfl, by decide, dd, rfl, .inl ⟨_, .inl upd_same⟩, _, rfl, _, .inl ⟨_, Sum.inr z, .inl upd_same, rfl, rfl⟩, ?_⟩
      rw [em]
      -- the list of the words
      refine ⟨_, rfl, (by show 1 ≤ sizeLine; decide), fun l0 nl => ?_⟩
      generalize hG : upd _ l0 _ = G
      rw [upd_upd] at nl hG
      have fD : Fr (· ≠ a) H G := by rw [← hG]; exact f0.trans ((Fr.new nd).trans (Fr.new nl))
      have sD : Src G a n := by rw [← hG]; exact ((hs.new n0).new nd).new nl
      have hl0 : G l0 = some (.lst [.str z]) := by rw [← hG]; exact upd_same
      have l0a : l0 ≠ a := by
        obtain ⟨d1, s1, e1, _⟩ := sD
        exact ne_of hl0 e1 (by intro h; cases h)
      have l0n : H l0 = none := f0.free l0a (by
        by_cases ed : l0 = dd
        · rw [ed]; exact nd
        · rw [upd_ne ed] at nl; exact nl)
      refine ⟨_, rfl, m, rfl, by omega, by omega, fun D nD => ?_⟩
      refine lc_it (walk_range (lo := 0) (n := (m : Int).toNat)) (fun i H' => Fr (· ≠ a) G H' ∧ Src H' a (n + i) ∧ ∃ zs : List Str, zs.length = i ∧ (∀ y ∈ zs, isW y = true) ∧ H' D = some (.lst (zs.map V.str)))
        ⟨Fr.new nD, by simpa using sD.new nD, [], rfl, by simp, upd_same⟩ (fun _ _ _ _ => trivial) ?_ ?_
      · rintro i x H1 H2 hi ⟨fr1, sr1, zs, ez, hw, hD⟩ ⟨rfl, rfl⟩
        refine ⟨rfl, ?_⟩
        refine ⟨_, rfl, a, n + i, rfl, sr1, by omega, fun H' y fr2 sr2 hy => ?_⟩
        have Da : D ≠ a := sD.nn nD
        refine ⟨_, fr2 _ _ Da hD, by rw [List.length_map, ez]; exact small (by omega), (fr1.trans fr2).upN nD, ?_, zs ++ [y], by simp [ez], ?_, ?_⟩
        · have e : n + ((i + 1 : Nat) : Int) = n + i + 1 := by omega
          rw [e]; exact sr2.ne Da.symm
        · intro u hu
          rcases List.mem_append.mp hu with h | h
          · exact hw u h
          · rw [List.mem_singleton.mp h]; exact hy
        · rw [upd_same, List.map_append]; rfl
      · rintro H1 ⟨fr1, sr1, zs, ez, hw, hD⟩
        have ez' : zs.length = m := by omega
        refine ⟨l0, D, _, _, rfl, rfl, fr1 _ _ l0a hl0, hD, by rw [List.length_map, ez']; exact smallE (by simp; omega), fun p np => ?_⟩
        refine ⟨p, _, rfl, .inl ⟨SqL.of upd_same, fun l nl2 => ?_⟩⟩
        have nH1 : H1 l = none := by
          by_cases e : l = p
          · rw [e]; exact np
          · rw [upd_ne e] at nl2; exact nl2
        obtain ⟨o, eo⟩ := sr1.is
        refine q _ l (zs.map V.str) (n + m) (fD.trans (fr1.trans ((Fr.new np).trans (Fr.new nl2)))) ?_ (by omega) (by omega) ((fD.trans fr1).freeD eo nH1) upd_same ?_
        · have e : ((m : Int).toNat : Int) = m := by omega
          rw [← e]; exact (sr1.new np).new nl2
        · have pw : ∀ (us : List Str), (∀ u ∈ us, isW u = true) → Paired (fun k v => fldOk k v = true) (List.replicate us.length true) (us.map V.str) := by
            intro us
            induction us with
            | nil => intro _; exact .nil
            | cons u us ih => intro h; exact .cons (h u (by simp)) (ih fun y hy => h y (by simp [hy]))
          rw [← ez']; exact pw zs hw
end
end Ft
set_option Elab.async false
set_option linter.all false
set_option maxRecDepth 100000
set_option maxHeartbeats 4000000
namespace Ft
open PySem L2
/-- the source at a and the budget at u have gone on by at most c draws, all else stands -/
def Pr (H : Hp) (a u : Addr) (n c : Int) (H' : Hp) : Prop := Fr (fun x => x ≠ a ∧ x ≠ u) H H' ∧ ∃ n' b0 b1, n ≤ n' ∧ n' ≤ n + c ∧ Src H' a n' ∧ H' u = some (.lst [.int b0, .int b1])
theorem Src.nu {H : Hp} {a u : Addr} {n b0 b1 : Int} (s : Src H a n) (h : H u = some (.lst [.int b0, .int b1])) : u ≠ a := by
  obtain ⟨d, s, e, _⟩ := s
  exact ne_of h e (by intro z; cases z)
section
variable {H H1 H2 : Hp} {a u : Addr} {n c c1 c2 b0 b1 : Int}
theorem Pr.start (hs : Src H a n) (hu : H u = some (.lst [.int b0, .int b1])) : Pr H a u n 0 H := ⟨Fr.refl, n, b0, b1, by omega, by omega, hs, hu⟩
theorem Pr.le (h : Pr H a u n c H1) (hc : c ≤ c1) : Pr H a u n c1 H1 := by
  obtain ⟨f, n', b0, b1, h1, h2, r⟩ := h
  exact ⟨f, n', b0, b1, h1, by omega, r⟩
theorem Pr.new {p : Addr} {o : HO} (h : Pr H a u n c H1) (np : H1 p = none) : Pr H a u n c (upd H1 p o) := by
  obtain ⟨f, n', b0, b1, h1, h2, h3, h4⟩ := h
  exact ⟨f.trans (Fr.new np), n', b0, b1, h1, h2, h3.new np, by rw [upd_ne (ne_of_none h4 np)]; exact h4⟩
theorem Pr.bud {x y : Int} (h : Pr H a u n c H1) : Pr H a u n c (upd H1 u (.lst [.int x, .int y])) := by
  obtain ⟨f, n', b0, b1, h1, h2, h3, h4⟩ := h
  exact ⟨f.trans (Fr.put fun z => z.2 rfl), n', x, y, h1, h2, h3.ne (h3.nu h4).symm, upd_same⟩
theorem Pr.upN {p : Addr} {o : HO} (h : Pr H a u n c H1) (np : H p = none) (pa : p ≠ a) (pu : p ≠ u) : Pr H a u n c (upd H1 p o) := by
  obtain ⟨f, n', b0, b1, h1, h2, h3, h4⟩ := h
  exact ⟨f.upN np, n', b0, b1, h1, h2, h3.ne pa.symm, by rw [upd_ne pu.symm]; exact h4⟩
theorem Pr.draws (h : Pr H a u n c H1) : ∃ n', n ≤ n' ∧ n' ≤ n + c ∧ Src H1 a n' ∧ ∀ {H2 : Hp} {n2 : Int}, Fr (· ≠ a) H1 H2 → Src H2 a n2 → n' ≤ n2 → n2 ≤ n' + c2 → Pr H a u n (c + c2) H2 := by
  obtain ⟨f, n', b0, b1, h1, h2, h3, h4⟩ := h
  exact ⟨n', h1, h2, h3, fun f2 s2 l1 l2 => ⟨f.trans (f2.mono fun x k => k.1), _, b0, b1, by omega, by omega, s2, f2 _ _ (h3.nu h4) h4⟩⟩
theorem Pr.goes (h : Pr H a u n c H1) : ∃ n' b0 b1, n ≤ n' ∧ n' ≤ n + c ∧ Src H1 a n' ∧ H1 u = some (.lst [.int b0, .int b1]) ∧ ∀ {H2 : Hp}, Pr H1 a u n' c2 H2 → Pr H a u n (c + c2) H2 := by
  obtain ⟨f, n', b0, b1, h1, h2, h3, h4⟩ := h
  refine ⟨n', b0, b1, h1, h2, h3, h4, fun k => ?_⟩
  obtain ⟨f2, n2, x, y, l1, l2, l3, l4⟩ := k
  exact ⟨f.trans f2, n2, x, y, by omega, by omega, l3, l4⟩
theorem Pr.free (h : Pr H a u n c H1) {x : Addr} (hx : H1 x = none) : H x = none := by
  obtain ⟨f, n', b0, b1, h1, h2, h3, h4⟩ := h
  cases e : H x with
  | none => rfl
  | some o =>
    obtain ⟨o', eo⟩ := h3.is
    have xa : x ≠ a := fun z => by rw [z, eo] at hx; cases hx
    have xu : x ≠ u := fun z => by rw [z, h4] at hx; cases hx
    rw [f x o ⟨xa, xu⟩ e] at hx; cases hx
theorem Pr.fr (h : Pr H a u n c H1) : Fr (fun x => x ≠ a ∧ x ≠ u) H H1 := h.1
theorem Pr.an (h : Pr H a u n c H1) {x : Addr} (hx : H1 x = none) : x ≠ a ∧ x ≠ u := by
  obtain ⟨f, n', b0, b1, h1, h2, h3, h4⟩ := h
  exact ⟨h3.nn hx, fun z => by rw [z, h4] at hx; cases hx⟩
end
def cRow : Nat → Int
  | 0 => 8
  | d + 1 => 10 + 8 * cRow d
theorem cRow_pos : ∀ d, 0 ≤ cRow d
  | 0 => by decide
  | d + 1 => by have := cRow_pos d; unfold cRow; omega
def spLRow (d : Nat) : Sp := fun vs H Q _ => ∃ (a u : Addr) (wi : Bool) (n b0 b1 : Int), vs = [.ref a, .ref u, .int d, .bl wi] ∧ Src H a n ∧ H u = some (.lst [.int b0, .int b1]) ∧ n + cRow d < 2 ^ 37 ∧
  ∀ H' v r, Pr H a u n (cRow d) H' → RowAt (fun x => H x = none) lawK H' d v r → RowO8 d wi r → Q v H'
def spLBlock (d : Nat) : Sp := fun vs H Q _ => ∃ (a u : Addr) (wi : Bool) (n b0 b1 : Int), vs = [.ref a, .ref u, .int d, .bl wi] ∧ Src H a n ∧ H u = some (.lst [.int b0, .int b1]) ∧ n + (1 + 4 * cRow d) < 2 ^ 37 ∧
  ∀ H' v rs, Pr H a u n (1 + 4 * cRow d) H' → RowsAt (fun x => H x = none) lawK H' d v rs → rs.length ≤ 4 → (∀ r ∈ rs, RowO8 d wi r) → Q v H'
section
variable {P : Program} {w : World} {K : PySem.W.Frag} {mg : Str → Option Value} {base : Heap}
abbrev sLBlock : Stmt := topS 38
theorem scLBlock : FnScope ["_law_source_here", "_law_budget", "_law_deep", "_law_in_make", "_law_found", "_law_k"] ["_law_source_here", "_law_budget", "_law_deep", "_law_in_make"] (defScope sLBlock) := ⟨rfl, rfl, rfl, by decide +kernel, rfl, by decide +kernel, by decide +kernel⟩
theorem ok_LBlock {f : Addr} {fd : FuncData} {k d : Nat} (F : Fun K "_law_block" "_law_block" sLBlock f fd) (B : Bl mg) (hk : 1 ≤ k) (gLDraw : Own P w K mg base 1 "_law_draw" ["_law_source_here", "_law_many"] spLDraw) (gLRow : Own P w K mg base k "_law_row" ["_law_source_here", "_law_budget", "_law_deep", "_law_in_make"] (spLRow d)) : FnOk P w K mg base CX0 (k + 1) f fd ["_law_source_here", "_law_budget", "_law_deep", "_law_in_make"] (spLBlock d) := by
  refine F.ok scLBlock (fun vs H Q E h => ?_) (fun cdv A outer s H vs Q E hr h => ?_)
  · obtain ⟨a, u, wi, n, b0, b1, rfl, _⟩ := h
    rfl
  obtain ⟨a, u, wi, n, b0, b1, rfl, hs, hu, hn, q⟩ := h
  refine ⟨_, (pss_cons (ps_set (i := 4) scLBlock.nd rfl (by first | exact Or.inl rfl | exact Or.inr rfl) (pe_lst pa_nil))
      (pss_cons (ps_for PassesOwn.never rfl (pi_range1 (by rfl) B.range (pa_cons (pe_own gLDraw (hr.mono (by omega)) (by rfl) (pa_cons (pv 0) (pa_cons pe_int pa_nil))) pa_nil)) (pg_name (i := 5) scLBlock.nd rfl (by first | exact Or.inl rfl | exact Or.inr rfl)) (pss_one (ps_if (pt_cmpR op_gt (pe_ix ix_list (pv 1) pe_int (fun _ _ => rfl)) pe_int (nomark _)) (pss_one (ps_expr (pe_bm PySem.F.plainAttrs_list PySem.F.slot_list_append PySem.F.type_list_append mt_append (pv 4) (pa_cons (pe_own gLRow (hr.mono (by omega)) (by rfl) (pa_cons (pv 0) (pa_cons (pv 1) (pa_cons (pv 2) (pa_cons (pv 3) pa_nil))))) pa_nil)))) pss_nil)))
      (pss_one (ps_ret (pv 4))))), ?_⟩
  have cp := cRow_pos d
  refine ⟨Nat.zero_le _, fun l nl => ?_⟩
  have p0 : Pr H a u n 0 (upd H l (.lst [])) := (Pr.start hs hu).new nl
  obtain ⟨n1, h1, h2, s1, go1⟩ := p0.draws (c2 := 1)
  refine ⟨_, rfl, a, 5, n1, rfl, s1, by omega, by decide, by decide, fun H1 j f1 sr1 j0 j1 => ?_⟩
  have p1 : Pr H a u n (0 + 1) H1 := go1 f1 sr1 (by omega) (by omega)
  have lan := (Pr.start hs hu).an nl
  refine ⟨j, rfl, by omega, by omega, ?_⟩
  refine for_it (walk_range (lo := 0) (n := j.toNat)) (fun i σ H' => ∃ v5, σ = [some (.ref a), some (.ref u), some (.int d), some (.bl wi), some (.ref l), v5] ∧ Pr H a u n (1 + i * cRow d) H' ∧
      ∃ xs rs, H' l = some (.lst xs) ∧ Paired (RowAt (fun x => H x = none ∧ x ≠ l) lawK H' d) xs rs ∧ rs.length ≤ i ∧ ∀ r ∈ rs, RowO8 d wi r)
    ⟨none, rfl, p1.le (by omega), [], [], f1 _ _ lan.1 upd_same, .nil, by simp, by simp⟩ (fun _ _ _ _ _ => trivial) ?_ ?_
  · rintro i x σ H2 H3 hi ⟨v5, rfl, p2, xs, rs, hl, hr2, hlen, hok⟩ ⟨rfl, rfl⟩
    obtain ⟨n3, c0, c1, g1, g2, s3, u3, go3⟩ := p2.goes (c2 := cRow d)
    have i3 : (i : Int) ≤ 3 := by omega
    have ib : (i : Int) * cRow d ≤ 3 * cRow d := Int.mul_le_mul_of_nonneg_right i3 cp
    have ei : (((i + 1 : Nat) : Int)) * cRow d = i * cRow d + cRow d := by
      rw [show (((i + 1 : Nat) : Int)) = (i : Int) + 1 by omega, Int.add_mul, Int.one_mul]
    refine ⟨_, rfl, u, _, 0, _, rfl, rfl, SqL.of u3, rfl, c0, 0, rfl, rfl, _, rfl, ite2 (fun c => ?_) (fun c => ?_)⟩
    · refine ⟨_, rfl, .inl ⟨rfl, _, SqL.of hl⟩, _, rfl, _, rfl, _, rfl, _, rfl, a, u, wi, n3, c0, c1, rfl, s3, u3, by omega, fun H4 v r p4 hv hrok => ?_⟩
      have lan2 : l ≠ a ∧ l ≠ u := lan
      have hl4 : H4 l = some (.lst xs) := p4.fr _ _ lan2 hl
      have l2 : xs.length ≤ i := by rw [paired_len hr2]; exact hlen
      refine ⟨l, xs, _, rfl, rfl, hl4, small (by omega), ?_⟩
      refine ⟨_, rfl, ?_, xs ++ [v], rs ++ [r], upd_same, ?_, by simp; omega, ?_⟩
      · rw [ei]
        exact (go3 p4).le (by omega) |>.upN nl lan.1 lan.2
      · have keep1 : Keep (fun x => H x = none ∧ x ≠ l) (fun x => H x = none ∧ x ≠ l) H3 (upd H4 l (.lst (xs ++ [v]))) := fun x kd ys k e => by
          refine ⟨k, ?_⟩
          rw [upd_ne k.2]
          exact p4.fr _ _ ((Pr.start hs hu).an k.1) e
        have keep2 : Keep (fun x => H3 x = none) (fun x => H x = none ∧ x ≠ l) H4 (upd H4 l (.lst (xs ++ [v]))) := fun x kd ys k e => by
          have xl : x ≠ l := fun z => by rw [z, hl] at k; cases k
          exact ⟨⟨p2.free k, xl⟩, by rw [upd_ne xl]; exact e⟩
        exact paired_app (hv.to keep2) (paired_imp hr2 fun v r q => q.to keep1)
      · intro r' h'
        rcases List.mem_append.mp h' with h | h
        · exact hok r' h
        · rw [List.mem_singleton.mp h]; exact hrok
    · exact ⟨_, rfl, by rw [ei]; exact p2.le (by omega), xs, rs, hl, hr2, by omega, hok⟩
  · rintro σ H2 ⟨v5, rfl, p2, xs, rs, hl, hr2, hlen, hok⟩
    have i4 : ((j.toNat : Nat) : Int) ≤ 4 := by omega
    have ib : ((j.toNat : Nat) : Int) * cRow d ≤ 4 * cRow d := Int.mul_le_mul_of_nonneg_right i4 cp
    exact ⟨_, rfl, q _ _ rs (p2.le (by omega)) ⟨xs, ⟨l, true, rfl, nl, rfl, hl⟩, paired_imp hr2 fun v r q => q.to (Keep.mono fun x k _ => k.1)⟩ (by omega) hok⟩
end
end Ft
set_option Elab.async false
set_option linter.all false
set_option maxRecDepth 100000
set_option maxHeartbeats 4000000
namespace Ft
open PySem L2
def w12 : List Str := ["load", "pick", "put", "copy", "part", "drop", "say", "tell", "seen", "fail", "make", "call"]
def w3 : List Str := ["when", "try", "make"]
def w14 : List Str := w12 ++ (["when", "try"] : List Str)
theorem w14_plain : ∀ z ∈ w14, z ≠ "make" → z ≠ "when" → z ≠ "try" → ∃ ks, (z, ks) ∈ plainT := by
  have h : ∀ z ∈ w14, (z = "make" || (z = "when" || (z = "try" || plainT.any fun p => decide (p.1 = z)))) = true := by decide +kernel
  intro z hz h1 h2 h3
  have e := h z hz
  simp only [h1, h2, h3, decide_false, Bool.false_or, List.any_eq_true] at e
  obtain ⟨p, hp, e⟩ := e
  have e' : p.1 = z := of_decide_eq_true e
  exact ⟨p.2, by rw [← e']; exact hp⟩
/-- the word may be run at depth d -/
def WOk1 (d : Nat) (z : Str) : Prop := z ∈ w14 ∧ (z = "when" ∨ z = "try" → 0 < d)
def WOk2 (d : Nat) (wi : Bool) (z : Str) : Prop := WOk1 d z ∧ (z = "make" → wi = false ∧ 0 < d) ∧ (z = "call" → wi = false)
theorem w12_ok {d : Nat} {z : Str} (h : z ∈ w12) : WOk1 d z := by
  refine ⟨List.mem_append_left _ h, fun e => ?_⟩
  have : ∀ z ∈ w12, z ≠ "when" ∧ z ≠ "try" := by decide +kernel
  rcases e with e | e
  · exact absurd e (this z h).1
  · exact absurd e (this z h).2
theorem w3_ok {d : Nat} {z : Str} (h : z ∈ w3) (hd : 0 < d) : WOk1 d z := by
  have : ∀ z ∈ w3, z ∈ w14 := by decide +kernel
  exact ⟨this z h, fun _ => hd⟩
theorem cRow8 : ∀ d, 8 ≤ cRow d
  | 0 => by decide
  | d + 1 => by have := cRow_pos d; unfold cRow; omega
section
variable {P : Program} {w : World} {K : PySem.W.Frag} {mg : Str → Option Value} {base : Heap}
abbrev sLRow : Stmt := topS 37
theorem scLRow : FnScope ["_law_source_here", "_law_budget", "_law_deep", "_law_in_make", "_law_some", "_law_word_here", "_law_ahead", "_law_one"] ["_law_source_here", "_law_budget", "_law_deep", "_law_in_make"] (defScope sLRow) := ⟨rfl, rfl, rfl, by decide +kernel, rfl, by decide +kernel, by decide +kernel⟩
theorem ok_LRow {f : Addr} {fd : FuncData} {k d : Nat} {spB : Sp} (F : Fun K "_law_row" "_law_row" sLRow f fd) (B : Bl mg) (hk : 4 ≤ k) (gLDraw : Own P w K mg base 1 "_law_draw" ["_law_source_here", "_law_many"] spLDraw) (gLPick : Own P w K mg base 2 "_law_pick" ["_law_source_here", "_law_some"] spLPick)
    (gLWord : Own P w K mg base 3 "_law_word" ["_law_source_here"] spLWord) (gLPlainRow : Own P w K mg base 4 "_law_plain_row" ["_law_source_here", "_law_word_here"] spLPlainRow)
    (gLBlock : Own P w K mg base k "_law_block" ["_law_source_here", "_law_budget", "_law_deep", "_law_in_make"] spB) (hB : ∀ e, d = e + 1 → spB = spLBlock e) : FnOk P w K mg base CX0 (k + 1) f fd ["_law_source_here", "_law_budget", "_law_deep", "_law_in_make"] (spLRow d) := by
  refine F.ok scLRow (fun vs H Q E h => ?_) (fun cdv A outer s H vs Q E hr h => ?_)
  · obtain ⟨a, u, wi, n, b0, b1, rfl, _⟩ := h
    rfl
  obtain ⟨a, u, wi, n, b0, b1, rfl, hs, hu, hn, q⟩ := h
  refine ⟨_, (pss_cons (ps_asg (pe_op op_sub (pe_ix ix_list (pv 1) pe_int (fun _ _ => rfl)) pe_int) (pg_sub (pv 1) pe_int set_list))
      (pss_cons (ps_set (i := 4) scLRow.nd rfl (by first | exact Or.inl rfl | exact Or.inr rfl) (pe_lst (pa_cons pe_str (pa_cons pe_str (pa_cons pe_str (pa_cons pe_str (pa_cons pe_str (pa_cons pe_str (pa_cons pe_str (pa_cons pe_str (pa_cons pe_str (pa_cons pe_str (pa_cons pe_str (pa_cons pe_str pa_nil))))))))))))))
      (pss_cons (ps_set (i := 5) scLRow.nd rfl (by first | exact Or.inl rfl | exact Or.inr rfl) (pe_own gLPick (hr.mono (by omega)) (by rfl) (pa_cons (pv 0) (pa_cons (pv 4) pa_nil))))
      (pss_cut (ps_if (PW.pt (pw_and (pt_cmpR op_eq (pe_own gLDraw (hr.mono (by omega)) (by rfl) (pa_cons (pv 0) (pa_cons pe_int pa_nil))) pe_int (nomark _)) (pw_and1 (pt_cmpR op_gt (pv 2) pe_int (nomark _))))) (pss_one (ps_set (i := 5) scLRow.nd rfl (by first | exact Or.inl rfl | exact Or.inr rfl) (pe_own gLPick (hr.mono (by omega)) (by rfl) (pa_cons (pv 0) (pa_cons (pe_lst (pa_cons pe_str (pa_cons pe_str (pa_cons pe_str pa_nil)))) pa_nil))))) pss_nil)
      (pss_cut (ps_if (pt_cmpR op_in_seq (pv 5) (pe_tup (pa_cons pe_str (pa_cons pe_str pa_nil))) (by rfl)) (pss_cons (ps_set (i := 5) scLRow.nd rfl (by first | exact Or.inl rfl | exact Or.inr rfl) (pe_ifExp (pt_cmpR op_gt (pe_ix ix_list (pv 1) pe_int (fun _ _ => rfl)) pe_int (nomark _)) (pv 5) pe_str))
      (pss_one (ps_asg (pe_op op_sub (pe_ix ix_list (pv 1) pe_int (fun _ _ => rfl)) (pe_callTy call_int1 (by rfl) B.int (by decide +kernel) (pa_cons (pe_cmpR op_ne (pv 5) pe_str (nomark _)) pa_nil))) (pg_sub (pv 1) pe_int set_list)))) pss_nil)
      (pss_cut (ps_if (PW.pt (pw_or (PW.pt (pw_and (pt_val (pv 3)) (pw_and1 (pt_cmpR op_in_seq (pv 5) (pe_tup (pa_cons pe_str (pa_cons pe_str pa_nil))) (by rfl))))) (pw_or1 (PW.pt (pw_and (pt_cmpR op_eq (pv 5) pe_str (nomark _)) (pw_and1 (pt_cmpR op_eq (pv 2) pe_int (nomark _)))))))) (pss_one (ps_set (i := 5) scLRow.nd rfl (by first | exact Or.inl rfl | exact Or.inr rfl) pe_str)) pss_nil)
      (pss_cons (ps_if (pt_cmpR op_eq (pv 5) pe_str (nomark _)) (pss_one (ps_ret (pe_tup (pa_cons (pv 5) (pa_cons (pe_own gLWord (hr.mono (by omega)) (by rfl) (pa_cons (pv 0) pa_nil)) (pa_cons (pe_own gLBlock (hr.mono (by omega)) (by rfl) (pa_cons (pv 0) (pa_cons (pv 1) (pa_cons (pe_op op_sub (pv 2) pe_int) (pa_cons pe_bl pa_nil))))) pa_nil)))))) pss_nil)
      (pss_cons (ps_if (pt_mid (PW.pt (pw_or (pt_cmpR op_eq (pv 5) pe_str (nomark _)) (pw_or1 (pt_cmpR op_eq (pv 5) pe_str (nomark _)))))) (pss_cut (ps_set (i := 6) scLRow.nd rfl (by first | exact Or.inl rfl | exact Or.inr rfl) (pe_ifExp (pt_cmpR op_eq (pv 5) pe_str (nomark _)) (pe_tup (pa_cons (pv 5) pa_nil)) (pe_tup (pa_cons (pv 5) (pa_cons (pe_own gLWord (hr.mono (by omega)) (by rfl) (pa_cons (pv 0) pa_nil)) pa_nil)))))
      (pss_cons (ps_set (i := 7) scLRow.nd rfl (by first | exact Or.inl rfl | exact Or.inr rfl) (pe_own gLBlock (hr.mono (by omega)) (by rfl) (pa_cons (pv 0) (pa_cons (pv 1) (pa_cons (pe_op op_sub (pv 2) pe_int) (pa_cons (pv 3) pa_nil))))))
      (pss_one (ps_ret (pe_op op_catA (pv 6) (pe_tup (pa_cons (pv 7) (pa_cons (pe_own gLBlock (hr.mono (by omega)) (by rfl) (pa_cons (pv 0) (pa_cons (pv 1) (pa_cons (pe_op op_sub (pv 2) pe_int) (pa_cons (pv 3) pa_nil))))) pa_nil)))))))) pss_nil)
      (pss_one (ps_ret (pe_own gLPlainRow (hr.mono (by omega)) (by rfl) (pa_cons (pv 0) (pa_cons (pv 5) pa_nil))))))))))))), ?_⟩
  have cp := cRow_pos d
  have c8 := cRow8 d
  -- budget[0] = budget[0] - 1
  refine ⟨_, rfl, u, _, 0, _, rfl, rfl, SqL.of hu, rfl, b0, 1, rfl, rfl, _, rfl, u, _, 0, 0, rfl, rfl, hu, rfl, ?_⟩
  have p0 : Pr H a u n 0 (upd H u (.lst [.int (b0 - 1), .int b1])) := (Pr.start hs hu).bud
  generalize hG : upd H u _ = G
  have p0 : Pr H a u n 0 G := by rw [← hG]; exact p0
  -- the word
  refine ⟨(by show 12 ≤ sizeLine; decide), fun l nl => ?_⟩
  obtain ⟨n1, h1, h2, s1, go1⟩ := (p0.new (o := .lst (w12.map V.str)) nl).draws (c2 := 1)
  refine ⟨_, rfl, _, rfl, a, l, w12.map V.str, n1, rfl, s1, by omega, (p0.an nl).1, upd_same, by decide, by decide, fun H1 x f1 sr1 hx => ?_⟩
  obtain ⟨z, hz, rfl⟩ := List.mem_map.mp hx
  have p1 : Pr H a u n (0 + 1) H1 := go1 f1 sr1 (by omega) (by omega)
  -- when, try, make
  refine ⟨fun σ H' => ∃ v4 z, σ = [some (.ref a), some (.ref u), some (.int d), some (.bl wi), v4, some (.str z), none, none] ∧ Pr H a u n 3 H' ∧ WOk1 d z, ?_, ?_⟩
  · obtain ⟨n2, h3, h4, s2, go2⟩ := p1.draws (c2 := 1)
    refine ⟨_, rfl, a, 3, n2, rfl, s2, by omega, by decide, by decide, fun H2 j f2 sr2 j0 j1 => ?_⟩
    have p2 : Pr H a u n (0 + 1 + 1) H2 := go2 f2 sr2 (by omega) (by omega)
    refine ⟨rfl, _, rfl, ite2 (fun c => ?_) (fun c => ?_)⟩
    · refine ⟨_, rfl, _, _, rfl, rfl, _, rfl, ite2 (fun c2 => ?_) (fun c2 => ?_)⟩
      · have d0 : (0 : Int) < (d : Int) := of_decide_eq_true c2
        refine ⟨_, rfl, (by show 3 ≤ sizeLine; decide), fun l2 nl2 => ?_⟩
        obtain ⟨n3, h5, h6, s3, go3⟩ := (p2.new (o := .lst (w3.map V.str)) nl2).draws (c2 := 1)
        refine ⟨a, l2, w3.map V.str, n3, rfl, s3, by omega, (p2.an nl2).1, upd_same, by decide, by decide, fun H3 y f3 sr3 hy => ?_⟩
        obtain ⟨z3, hz3, rfl⟩ := List.mem_map.mp hy
        exact ⟨_, z3, rfl, (go3 f3 sr3 (by omega) (by omega)).le (by omega), w3_ok hz3 (by omega)⟩
      · exact ⟨_, z, rfl, p2.le (by omega), w12_ok hz⟩
    · exact iteF ⟨_, z, rfl, p2.le (by omega), w12_ok hz⟩
  rintro σ H2 ⟨v4, z, rfl, p2, hz⟩
  -- load, pick
  refine ⟨fun σ H' => ∃ v4 z, σ = [some (.ref a), some (.ref u), some (.int d), some (.bl wi), v4, some (.str z), none, none] ∧ Pr H a u n 3 H' ∧ WOk1 d z, ?_, ?_⟩
  · refine ⟨_, rfl, (by show 2 ≤ sizeLine; decide), fun t0 nt => ?_⟩
    refine ⟨t0, _, rfl, .inr (SqT.of upd_same), rfl, rfl, _, rfl, ite2 (fun c => ?_) (fun c => ?_)⟩
    · have p3 := p2.new (o := .tup [.str "load", .str "pick"]) nt
      obtain ⟨n3, c0, c1, g1, g2, s3, u3, go3⟩ := p3.goes (c2 := 0)
      refine ⟨_, rfl, u, _, 1, _, rfl, rfl, SqL.of u3, rfl, c1, 0, rfl, rfl, _, rfl, ite2 (fun e => ?_) (fun e => ?_)⟩
      · refine ⟨_, rfl, ?_⟩
        refine ⟨_, rfl, u, _, 1, _, rfl, rfl, SqL.of u3, rfl, _, rfl, rfl, .inr ⟨_, rfl, c1, _, rfl, rfl, _, rfl, u, _, 1, 1, rfl, rfl, u3, rfl, ?_⟩⟩
        exact ⟨_, z, rfl, p3.bud, hz⟩
      · refine ⟨_, rfl, u, _, 1, _, rfl, rfl, SqL.of u3, rfl, _, rfl, rfl, .inr ⟨_, rfl, c1, _, rfl, rfl, _, rfl, u, _, 1, 1, rfl, rfl, u3, rfl, ?_⟩⟩
        exact ⟨_, "seen", rfl, p3.bud, w12_ok (by decide +kernel)⟩
    · exact ⟨_, z, rfl, p2.new nt, hz⟩
  rintro σ H3 ⟨v4, z, rfl, p3, hz⟩
  -- make, call
  refine ⟨fun σ H' => ∃ v4 z, σ = [some (.ref a), some (.ref u), some (.int d), some (.bl wi), v4, some (.str z), none, none] ∧ Pr H a u n 3 H' ∧ WOk2 d wi z, ?_, ?_⟩
  · have tell : ∀ {H' : Hp}, Pr H a u n 3 H' → ∃ v4' z', [some (V.ref a), some (.ref u), some (.int d), some (.bl wi), v4, some (.str "tell"), none, none] = [some (V.ref a), some (.ref u), some (.int d), some (.bl wi), v4', some (.str z'), none, none] ∧ Pr H a u n 3 H' ∧ WOk2 d wi z' := fun p =>
      ⟨_, "tell", rfl, p, w12_ok (by decide +kernel), fun e => absurd e (by decide), fun e => absurd e (by decide)⟩
    cases wi with
    | false =>
      refine ⟨_, rfl, false, rfl, iteF (iteF ?_)⟩
      refine ⟨_, rfl, rfl, _, rfl, ite2 (fun c => ?_) (fun c => ?_)⟩
      · refine ⟨_, rfl, rfl, _, rfl, ite2 (fun c2 => tell p3) (fun c2 => ?_)⟩
        refine ⟨_, z, rfl, p3, hz, fun _ => ⟨rfl, ?_⟩, fun _ => rfl⟩
        have : ¬ ((d : Nat) : Int) = 0 := fun e => c2 (by rw [e]; exact decide_eq_true rfl)
        omega
      · exact iteF ⟨_, z, rfl, p3, hz, fun e => absurd (by rw [e]; exact decide_eq_true rfl) c, fun _ => rfl⟩
    | true =>
      refine ⟨_, rfl, true, rfl, iteT ?_⟩
      refine ⟨_, rfl, (by show 2 ≤ sizeLine; decide), fun t0 nt => ?_⟩
      refine ⟨t0, (["make", "call"] : List Str).map V.str, rfl, .inr (SqT.of upd_same), rfl, rfl, _, rfl, ite2 (fun c => ?_) (fun c => ?_)⟩
      · first | exact iteT (tell (p3.new nt)) | exact tell (p3.new nt)
      have c' : ¬ z ∈ (["make", "call"] : List Str) := fun e => c (by
        show inV (.str z) ((["make", "call"] : List Str).map V.str) = true
        rw [inV_iff]; exact decide_eq_true e)
      have nm : z ≠ "make" := fun e => c' (by rw [e]; decide +kernel)
      have nc : z ≠ "call" := fun e => c' (by rw [e]; decide +kernel)
      refine ⟨_, rfl, rfl, _, rfl, ite2 (fun c2 => absurd (V.str.inj (of_decide_eq_true c2)) nm) (fun c2 => ?_)⟩
      exact iteF ⟨_, z, rfl, p3.new nt, hz, fun e => absurd e nm, fun e => absurd e nc⟩
  rintro σ H4 ⟨v4, z, rfl, p4, hz⟩
  -- make
  refine ⟨_, rfl, rfl, _, rfl, ite2 (fun c => ?_) (fun c => ?_)⟩
  · have ez : z = "make" := V.str.inj (of_decide_eq_true c)
    subst ez
    obtain ⟨hwi, hd⟩ := hz.2.1 rfl
    subst hwi
    obtain ⟨e, rfl⟩ : ∃ e, d = e + 1 := ⟨d - 1, by omega⟩
    have hB' := hB e rfl
    subst hB'
    have ce := cRow_pos e
    have he : cRow (e + 1) = 10 + 8 * cRow e := rfl
    obtain ⟨n4, h7, h8, s4, go4⟩ := p4.draws (c2 := 1)
    refine ⟨_, rfl, _, rfl, a, n4, rfl, s4, by omega, fun H5 y f5 sr5 hy => ?_⟩
    have p5 : Pr H a u n (3 + 1) H5 := go4 f5 sr5 (by omega) (by omega)
    obtain ⟨n5, c0, c1, g1, g2, s5, u5, go5⟩ := p5.goes (c2 := 1 + 4 * cRow e)
    refine ⟨_, rfl, _, rfl, _, rfl, _, 1, rfl, rfl, a, u, true, n5, c0, c1, by simp, s5, u5, by omega, fun H6 v rs p6 hv hl hrs => ?_⟩
    refine ⟨(by show 3 ≤ sizeLine; decide), fun p np => ?_⟩
    have p7 := go5 p6
    refine q _ _ (.make y rs) ((p7.le (by omega)).new np) ?_ ⟨rfl, hy, by omega, hrs⟩
    obtain ⟨xs, hat, hall⟩ := hv
    have kp : Keep (fun x => H5 x = none) (fun x => H x = none) H6 (upd H6 p (.tup [.str "make", .str y, v])) := (Keep.mono fun x k _ => p5.free k).trans (Keep.new np)
    exact ⟨v, xs, ⟨p, false, rfl, p7.free np, rfl, upd_same⟩, hat.to kp, paired_imp hall fun v r h => h.to kp⟩
  · have nm : z ≠ "make" := fun e => c (by rw [e]; exact decide_eq_true rfl)
    -- when, try
    refine ⟨fun b H' => H4 = H' ∧ b = decide (z = "when" ∨ z = "try"), ?_, ?_⟩
    · refine ⟨_, rfl, rfl, _, rfl, ite2 (fun c1 => ?_) (fun c1 => ?_)⟩
      · have e1 : z = "when" := V.str.inj (of_decide_eq_true c1)
        exact ⟨rfl, by simp [e1]⟩
      · have e1 : ¬ z = "when" := fun e => c1 (by rw [e]; exact decide_eq_true rfl)
        refine ⟨_, rfl, rfl, _, rfl, rfl, ?_⟩
        have : (V.str z = V.str "try") ↔ (z = "when" ∨ z = "try") := ⟨fun e => .inr (V.str.inj e), fun e => by rw [e.resolve_left e1]⟩
        exact decide_eq_decide.mpr this
    rintro b _ ⟨rfl, rfl⟩
    refine ite2 (fun c2 => ?_) (fun c2 => ?_)
    · have hw2 : z = "when" ∨ z = "try" := of_decide_eq_true c2
      have hd := hz.1.2 hw2
      obtain ⟨e, rfl⟩ : ∃ e, d = e + 1 := ⟨d - 1, by omega⟩
      have hB' := hB e rfl
      subst hB'
      have ce := cRow_pos e
      have he : cRow (e + 1) = 10 + 8 * cRow e := rfl
      refine ⟨fun σ H' => ∃ p pre, σ = [some (.ref a), some (.ref u), some (.int (e + 1 : Nat)), some (.bl wi), v4, some (.str z), some (.ref p), none] ∧ Pr H a u n 4 H' ∧ H p = none ∧ H' p = some (.tup pre) ∧
        ((z = "try" ∧ pre = [.str "try"]) ∨ ∃ y, z = "when" ∧ isW y = true ∧ pre = [.str "when", .str y]), ?_, ?_⟩
      · refine ⟨_, rfl, rfl, _, rfl, ite2 (fun c3 => ?_) (fun c3 => ?_)⟩
        · have ez : z = "try" := V.str.inj (of_decide_eq_true c3)
          subst ez
          refine ⟨_, rfl, (by show 1 ≤ sizeLine; decide), fun p np => ?_⟩
          exact ⟨p, _, rfl, (p4.le (by omega)).new np, p4.free np, upd_same, .inl ⟨rfl, rfl⟩⟩
        · have ez : z = "when" := hw2.resolve_right fun e => c3 (by rw [e]; exact decide_eq_true rfl)
          subst ez
          obtain ⟨n4, h7, h8, s4, go4⟩ := p4.draws (c2 := 1)
          refine ⟨_, rfl, _, rfl, a, n4, rfl, s4, by omega, fun H5 y f5 sr5 hy => ?_⟩
          have p5 : Pr H a u n (3 + 1) H5 := go4 f5 sr5 (by omega) (by omega)
          refine ⟨(by show 2 ≤ sizeLine; decide), fun p np => ?_⟩
          exact ⟨p, _, rfl, (p5.le (by omega)).new np, p5.free np, upd_same, .inr ⟨y, rfl, hy, rfl⟩⟩
      rintro σ H5 ⟨p, pre, rfl, p5, npH, hp, hpre⟩
      obtain ⟨n5, c0, c1, g1, g2, s5, u5, go5⟩ := p5.goes (c2 := 1 + 4 * cRow e)
      refine ⟨_, rfl, _, rfl, _, rfl, _, 1, rfl, rfl, _, rfl, a, u, wi, n5, c0, c1, by simp, s5, u5, by omega, fun H6 v1 rs1 p6 hv1 hl1 hrs1 => ?_⟩
      have p7 := go5 p6
      obtain ⟨n7, c2', c3', g3, g4, s7, u7, go7⟩ := p7.goes (c2 := 1 + 4 * cRow e)
      refine ⟨_, rfl, _, rfl, _, rfl, _, rfl, _, rfl, _, 1, rfl, rfl, _, rfl, a, u, wi, n7, c2', c3', by simp, s7, u7, by omega, fun H8 v2 rs2 p8 hv2 hl2 hrs2 => ?_⟩
      have p9 := go7 p8
      refine ⟨(by show 2 ≤ sizeLine; decide), fun t1 nt1 => ?_⟩
      have pau : p ≠ a ∧ p ≠ u := (Pr.start hs hu).an npH
      have hp8 : H8 p = some (.tup pre) := p8.fr _ _ pau (p6.fr _ _ pau hp)
      have hp9 : (upd H8 t1 (.tup [v1, v2])) p = some (.tup pre) := by rw [upd_ne (ne_of_none hp8 nt1)]; exact hp8
      have lp : pre.length ≤ 2 := by
        rcases hpre with ⟨_, e⟩ | ⟨y, _, _, e⟩ <;> rw [e] <;> simp
      have fin : ∀ t2, (upd H8 t1 (.tup [v1, v2])) t2 = none → Q (.ref t2) (upd (upd H8 t1 (.tup [v1, v2])) t2 (.tup (pre ++ [v1, v2]))) := fun t2 nt2 => by
        have pA := (p9.new (o := .tup [v1, v2]) nt1)
        have pB := pA.new (o := .tup (pre ++ [v1, v2])) nt2
        obtain ⟨xs1, hat1, hall1⟩ := hv1
        obtain ⟨xs2, hat2, hall2⟩ := hv2
        have k1 : Keep (fun x => H5 x = none) (fun x => H x = none) H6 (upd (upd H8 t1 (.tup [v1, v2])) t2 (.tup (pre ++ [v1, v2]))) :=
          ((Keep.mono (o2 := fun x => H x = none) fun x k _ => p5.free k).trans (Keep.fr ((p8.fr.mono fun x k => (Pr.start hs hu).an k).trans ((Fr.new nt1).trans (Fr.new nt2))) fun x k => k))
        have k2 : Keep (fun x => H6 x = none) (fun x => H x = none) H8 (upd (upd H8 t1 (.tup [v1, v2])) t2 (.tup (pre ++ [v1, v2]))) :=
          ((Keep.mono (o2 := fun x => H x = none) fun x k _ => p7.free k).trans (Keep.fr ((Fr.new nt1).trans (Fr.new nt2)) fun x k => k))
        have top : At (fun x => H x = none) (lawK false) (upd (upd H8 t1 (.tup [v1, v2])) t2 (.tup (pre ++ [v1, v2]))) (.ref t2) (pre ++ [v1, v2]) := ⟨t2, false, rfl, pA.free nt2, rfl, upd_same⟩
        rcases hpre with ⟨_, e⟩ | ⟨y, _, hy, e⟩
        · subst e
          exact q _ _ (.try_ rs1 rs2) (pB.le (by omega)) ⟨v1, xs1, v2, xs2, top, hat1.to k1, paired_imp hall1 fun v r h => h.to k1, hat2.to k2, paired_imp hall2 fun v r h => h.to k2⟩ ⟨by omega, by omega, hrs1, hrs2⟩
        · subst e
          exact q _ _ (.when y rs1 rs2) (pB.le (by omega)) ⟨v1, xs1, v2, xs2, top, hat1.to k1, paired_imp hall1 fun v r h => h.to k1, hat2.to k2, paired_imp hall2 fun v r h => h.to k2⟩ ⟨hy, by omega, by omega, hrs1, hrs2⟩
      have pn : pre ≠ [] := by
        rcases hpre with ⟨_, e⟩ | ⟨y, _, _, e⟩ <;> rw [e] <;> simp
      exact ⟨p, t1, pre, [v1, v2], rfl, rfl, SqT.of hp9, SqT.of upd_same, smallE (by simp; omega), fun e => absurd e pn, fun _ e => absurd e (by simp), fun _ _ => fin⟩
    · -- a plain row
      have nw : z ≠ "when" ∧ z ≠ "try" := ⟨fun e => c2 (by simp [e]), fun e => c2 (by simp [e])⟩
      obtain ⟨ks, hks⟩ := w14_plain z hz.1.1 nm nw.1 nw.2
      obtain ⟨n4, h7, h8, s4, go4⟩ := p4.draws (c2 := 4)
      refine ⟨_, rfl, _, rfl, a, n4, z, ks, rfl, s4, by omega, hks, fun H5 p fs n5 f5 sr5 l1 l2 np hp hfs => ?_⟩
      have p5 : Pr H a u n (3 + 4) H5 := go4 f5 sr5 (by omega) (by omega)
      refine q _ _ (.plain z fs) (p5.le (by omega)) ?_ ?_
      · have : At (fun x => H x = none) (lawK false) H5 (.ref p) (.str z :: fs) := ⟨p, false, rfl, p4.free np, rfl, hp⟩
        cases d <;> exact this
      · have : plainOk wi z fs := ⟨ks, hks, hfs, fun e1 e2 => by rw [hz.2.2 e2] at e1; cases e1⟩
        cases d <;> exact this
theorem rows_ok {fR fB : Addr} {fdR fdB : FuncData} (FR : Fun K "_law_row" "_law_row" sLRow fR fdR) (FB : Fun K "_law_block" "_law_block" sLBlock fB fdB) (B : Bl mg)
    (mR : mg "_law_row" = some (.ref fR)) (mB : mg "_law_block" = some (.ref fB)) (bR : Binds K fdR ["_law_source_here", "_law_budget", "_law_deep", "_law_in_make"] []) (bB : Binds K fdB ["_law_source_here", "_law_budget", "_law_deep", "_law_in_make"] [])
    (gLDraw : Own P w K mg base 1 "_law_draw" ["_law_source_here", "_law_many"] spLDraw) (gLPick : Own P w K mg base 2 "_law_pick" ["_law_source_here", "_law_some"] spLPick)
    (gLWord : Own P w K mg base 3 "_law_word" ["_law_source_here"] spLWord) (gLPlainRow : Own P w K mg base 4 "_law_plain_row" ["_law_source_here", "_law_word_here"] spLPlainRow) :
    ∀ d : Nat, Own P w K mg base (5 + 2 * d) "_law_row" ["_law_source_here", "_law_budget", "_law_deep", "_law_in_make"] (spLRow d) ∧ Own P w K mg base (6 + 2 * d) "_law_block" ["_law_source_here", "_law_budget", "_law_deep", "_law_in_make"] (spLBlock d)
  | 0 => by
    have r0 : Own P w K mg base 5 "_law_row" ["_law_source_here", "_law_budget", "_law_deep", "_law_in_make"] (spLRow 0) := own_mk FR mR bR (ok_LRow (k := 4) FR B (by omega) gLDraw gLPick gLWord gLPlainRow (own_mk FB mB bB fn_false) (fun e h => absurd h (by omega)))
    exact ⟨r0, own_mk FB mB bB (ok_LBlock FB B (by omega) gLDraw r0)⟩
  | d + 1 => by
    obtain ⟨_, ihB⟩ := rows_ok FR FB B mR mB bR bB gLDraw gLPick gLWord gLPlainRow d
    have r1 : Own P w K mg base (6 + 2 * d + 1) "_law_row" ["_law_source_here", "_law_budget", "_law_deep", "_law_in_make"] (spLRow (d + 1)) := own_mk FR mR bR (ok_LRow FR B (by omega) gLDraw gLPick gLWord gLPlainRow ihB (fun e h => by
      have : d = e := by omega
      rw [this]))
    refine ⟨r1.mono (by omega), (own_mk FB mB bB (ok_LBlock FB B (by omega) gLDraw r1)).mono (by omega)⟩
end
end Ft
set_option Elab.async false
set_option linter.all false
set_option maxRecDepth 100000
set_option maxHeartbeats 4000000
namespace Ft
open PySem L2
abbrev Lib := List (Str × List Row)
def LibAt (ok : Addr → Prop) (kk : Bool → Bool → Prop) (H : Hp) (kvs : List (Key × V)) (lib : Lib) : Prop := Paired (fun (kv : Key × V) (m : Str × List Row) => kv.1 = Sum.inr m.1 ∧ RowsAt ok kk H 3 kv.2 m.2) kvs lib
theorem LibAt.to {ok ok' : Addr → Prop} {kk : Bool → Bool → Prop} {H H' : Hp} {kvs : List (Key × V)} {lib : Lib} (h : LibAt ok kk H kvs lib) (t : Keep ok ok' H H') : LibAt ok' kk H' kvs lib := paired_imp h fun _ _ q => ⟨q.1, q.2.to t⟩
structure LibOk (lib : Lib) : Prop where
  few : lib.length ≤ 4
  nd : (lib.map (·.1)).Nodup
  word : ∀ m ∈ lib, isW m.1 = true
  len : ∀ m ∈ lib, m.2.length ≤ 24
  rows : ∀ m ∈ lib, ∀ r ∈ m.2, RowO8 3 false r
  tot : (lib.map fun m => m.2.length).sum ≤ 32
theorem rows_le : ∀ {lib : Lib}, (∀ m ∈ lib, m.2.length ≤ 8) → (lib.map fun m => m.2.length).sum ≤ 8 * lib.length
  | [], _ => by simp
  | m :: lib, h => by
    have h1 := h m (by simp)
    have h2 := rows_le (lib := lib) fun x hx => h x (by simp [hx])
    rw [List.map_cons, List.sum_cons, List.length_cons]
    omega
theorem rows_tot {lib : Lib} (hl : lib.length ≤ 4) (h : ∀ m ∈ lib, m.2.length ≤ 8) : (lib.map fun m => m.2.length).sum ≤ 32 := by
  have := rows_le h
  omega
def putL (lib : Lib) (z : Str) (rs : List Row) : Lib := if (lib.any fun m => decide (m.1 = z)) = true then lib.map (fun m => if m.1 = z then (m.1, rs) else m) else lib ++ [(z, rs)]
theorem putL_any {ok : Addr → Prop} {kk : Bool → Bool → Prop} {H : Hp} {z : Str} : ∀ {kvs : List (Key × V)} {lib : Lib}, LibAt ok kk H kvs lib → (kvs.any fun kv => decide (kv.1 = Sum.inr z)) = (lib.any fun m => decide (m.1 = z))
  | _, _, .nil => rfl
  | _, _, .cons (a := kv) (b := m) r t => by
    rw [List.any_cons, List.any_cons, putL_any t, r.1]
    congr 1
    by_cases e : m.1 = z
    · rw [e]; simp
    · have : ¬ (Sum.inr m.1 : Key) = Sum.inr z := fun h => e (Sum.inr.inj h)
      rw [decide_eq_false e, decide_eq_false this]
theorem libAt_put {ok : Addr → Prop} {kk : Bool → Bool → Prop} {H : Hp} {kvs : List (Key × V)} {lib : Lib} {z : Str} {v : V} {rs : List Row} (h : LibAt ok kk H kvs lib) (hv : RowsAt ok kk H 3 v rs) : LibAt ok kk H (putK kvs (Sum.inr z) v) (putL lib z rs) := by
  unfold putK putL
  rw [putL_any (z := z) h]
  split
  · have go : ∀ {kvs : List (Key × V)} {lib : Lib}, LibAt ok kk H kvs lib → LibAt ok kk H (kvs.map (fun kv => if kv.1 = Sum.inr z then (kv.1, v) else kv)) (lib.map (fun m => if m.1 = z then (m.1, rs) else m)) := by
      intro kvs lib h
      induction h with
      | nil => exact .nil
      | cons r t ih =>
        refine .cons ?_ ih
        rename_i kv m _ _
        dsimp only
        by_cases e : m.1 = z
        · have e2 : kv.1 = Sum.inr z := by rw [r.1, e]
          rw [if_pos e, if_pos e2]
          exact ⟨r.1, hv⟩
        · have e2 : ¬ kv.1 = Sum.inr z := by rw [r.1]; exact fun q => e (Sum.inr.inj q)
          rw [if_neg e, if_neg e2]
          exact r
    exact go h
  · exact paired_app ⟨rfl, hv⟩ h
theorem putL_keys (lib : Lib) (z : Str) (rs : List Row) : (putL lib z rs).map (·.1) = if z ∈ lib.map (·.1) then lib.map (·.1) else lib.map (·.1) ++ [z] := by
  unfold putL
  have ea : ((lib.any fun m => decide (m.1 = z)) = true) ↔ z ∈ lib.map (·.1) := by
    rw [List.any_eq_true]
    constructor
    · rintro ⟨m, hm, e⟩
      have e' : m.1 = z := of_decide_eq_true e
      exact List.mem_map.mpr ⟨m, hm, e'⟩
    · intro h
      obtain ⟨m, hm, e⟩ := List.mem_map.mp h
      exact ⟨m, hm, decide_eq_true e⟩
  by_cases c : z ∈ lib.map (·.1)
  · rw [if_pos (ea.mpr c), if_pos c, List.map_map]
    refine List.map_congr_left fun m _ => ?_
    show (if m.1 = z then (m.1, rs) else m).1 = m.1
    split <;> rfl
  · rw [if_neg (fun h => c (ea.mp h)), if_neg c, List.map_append]
    rfl
theorem putL_mem {lib : Lib} {z : Str} {rs : List Row} {m : Str × List Row} (h : m ∈ putL lib z rs) : m = (z, rs) ∨ m ∈ lib := by
  unfold putL at h
  split at h
  · obtain ⟨m', hm, e⟩ := List.mem_map.mp h
    by_cases c : m'.1 = z
    · rw [if_pos c] at e
      rw [← c]; exact .inl e.symm
    · rw [if_neg c] at e
      rw [← e]; exact .inr hm
  · rcases List.mem_append.mp h with h | h
    · exact .inr h
    · exact .inl (List.mem_singleton.mp h)
theorem putL_len (lib : Lib) (z : Str) (rs : List Row) : lib.length ≤ (putL lib z rs).length ∧ (putL lib z rs).length ≤ lib.length + 1 ∧ 0 < (putL lib z rs).length := by
  unfold putL
  split
  · rename_i h
    rw [List.length_map]
    have : lib ≠ [] := fun e => by rw [e] at h; cases h
    exact ⟨Nat.le_refl _, Nat.le_succ _, List.length_pos_iff.mpr this⟩
  · rw [List.length_append]
    exact ⟨Nat.le_add_right _ _, Nat.le_refl _, Nat.succ_pos _⟩
theorem putL_nd {lib : Lib} {z : Str} {rs : List Row} (h : (lib.map (·.1)).Nodup) : ((putL lib z rs).map (·.1)).Nodup := by
  rw [putL_keys]
  split
  · exact h
  · rename_i c
    rw [List.nodup_append]
    refine ⟨h, by simp, fun x hx y hy e => c ?_⟩
    rw [List.mem_singleton.mp hy] at e
    rw [← e]; exact hx
theorem libAt_len {ok : Addr → Prop} {kk : Bool → Bool → Prop} {H : Hp} {kvs : List (Key × V)} {lib : Lib} (h : LibAt ok kk H kvs lib) : kvs.length = lib.length := paired_len h
theorem libAt_keys {ok : Addr → Prop} {kk : Bool → Bool → Prop} {H : Hp} {kvs : List (Key × V)} {lib : Lib} (h : LibAt ok kk H kvs lib) : kvs.map (·.1) = (lib.map (·.1)).map Sum.inr := by
  induction h with
  | nil => rfl
  | cons r t ih => rw [List.map_cons, List.map_cons, List.map_cons, ih, r.1]
/-- what a module of the library has -/
theorem libAt_val {ok : Addr → Prop} {kk : Bool → Bool → Prop} {H : Hp} {kvs : List (Key × V)} {lib : Lib} (h : LibAt ok kk H kvs lib) {z : Str} {rs : List Row} (hn : (lib.map (·.1)).Nodup) (hm : (z, rs) ∈ lib) : ∃ v, valV kvs (Sum.inr z) = some v ∧ RowsAt ok kk H 3 v rs := by
  induction h with
  | nil => cases hm
  | cons r t ih =>
    rename_i kv m kvs' lib'
    rw [List.map_cons, List.nodup_cons] at hn
    rcases List.mem_cons.mp hm with e | hm
    · subst e
      refine ⟨kv.2, ?_, r.2⟩
      unfold valV
      rw [List.find?_cons_of_pos (by rw [r.1]; exact decide_eq_true rfl)]
      rfl
    · obtain ⟨v, hv, hr⟩ := ih hn.2 hm
      refine ⟨v, ?_, hr⟩
      have : ¬ kv.1 = Sum.inr z := fun e => by
        rw [r.1] at e
        have e' := Sum.inr.inj e
        exact hn.1 (by rw [e']; exact List.mem_map.mpr ⟨_, hm, rfl⟩)
      unfold valV at hv ⊢
      rw [List.find?_cons_of_neg (by rw [decide_eq_false this]; exact Bool.false_ne_true)]
      exact hv
end Ft
set_option Elab.async false
set_option linter.all false
set_option maxRecDepth 100000
set_option maxHeartbeats 4000000
namespace Ft
open PySem L2
section
variable {P : Program} {w : World} {K : PySem.W.Frag} {mg : Str → Option Value} {base : Heap}
abbrev sLLibrary : Stmt := topS 39
theorem scLLibrary : FnScope ["_law_source_here", "_law_found", "_law_budget", "_law_k", "_law_rows", "_law_j"] ["_law_source_here"] (defScope sLLibrary) := ⟨rfl, rfl, rfl, by decide +kernel, rfl, by decide +kernel, by decide +kernel⟩
def cMod : Int := 2 + 8 * cRow 3
end
end Ft
set_option Elab.async false
set_option linter.all false
set_option maxRecDepth 100000
set_option maxHeartbeats 4000000
namespace Ft
open PySem PySem.Spec PyProof.Rows L2
def kitAnyB (T : String) : List String → Option Bool
  | [] => some false
  | c :: cs => match kitB T c with
    | some true => some true
    | some false => kitAnyB T cs
    | none => none
theorem kitAny_of {K : PySem.W.Frag} {T : String} : ∀ {cs : List String} {b : Bool}, kitAnyB T cs = some b → PySem.W.kitAny K (.type T) (cs.map Value.type) = some b
  | [], b, h => by
    have : false = b := Option.some.inj h
    subst this
    exact kitAny_nil
  | c :: cs, b, h => by
    unfold kitAnyB at h
    cases e : kitB T c with
    | none => rw [e] at h; cases h
    | some x =>
      rw [e] at h
      cases x with
      | true =>
        have : true = b := Option.some.inj h
        subst this
        exact kitAny_cons (kit_ty e) (fun z => by cases z) (fun _ => rfl)
      | false => exact kitAny_cons (kit_ty e) (fun _ => kitAny_of h) (fun z => by cases z)
theorem clsV_all : ∀ (cs : List String), Paired ClsV (cs.map V.ty) (cs.map Value.type)
  | [] => .nil
  | c :: cs => .cons (.ty c) (clsV_all cs)
def isAtom : V → Bool
  | .non => true
  | .bl _ => true
  | .int _ => true
  | .str _ => true
  | _ => false
def atomT : V → String
  | .non => "NoneType"
  | .bl _ => "bool"
  | .int _ => "int"
  | .str _ => "str"
  | _ => ""
def seqT (kd : Bool) : String := if kd then "list" else "tuple"
theorem atom_ty {K : PySem.W.Frag} {H : Hp} {x : V} (h : isAtom x = true) : TyX K H x (.type (atomT x)) := by
  cases x with
  | non => exact .base .non
  | bl b => exact .base (.bl b)
  | int i => exact .base (.int i)
  | str z => exact .base (.str z)
  | _ => cases h
theorem seq_ty {K : PySem.W.Frag} {H : Hp} {a : Addr} {kd : Bool} {xs : List V} (h : H a = some (mkO kd xs)) : TyX K H (.ref a) (.type (seqT kd)) := by
  cases kd with
  | true => exact .base (.lst h)
  | false => exact .base (.tup h)
theorem atom_lt {x : V} (h : isAtom x = true) : kitAnyB (atomT x) ["list", "tuple"] = some false := by
  cases x with
  | non => decide +kernel
  | bl b => show kitAnyB "bool" ["list", "tuple"] = some false; decide +kernel
  | int i => show kitAnyB "int" ["list", "tuple"] = some false; decide +kernel
  | str z => show kitAnyB "str" ["list", "tuple"] = some false; decide +kernel
  | _ => cases h
theorem seq_lt (kd : Bool) : kitAnyB (seqT kd) ["list", "tuple"] = some true := by cases kd <;> decide +kernel
end Ft
set_option Elab.async false
set_option linter.all false
set_option maxRecDepth 100000
set_option maxHeartbeats 4000000
namespace Ft
open PySem L2
def anyE : Bool → Prop := fun _ => True
theorem At.any {ok : Addr → Prop} {kk : Bool → Prop} {H : Hp} {v : V} {xs : List V} (h : At ok kk H v xs) : At ok anyE H v xs := h.kinds fun _ _ => trivial
inductive E where
  | at (v : V)
  | sq (es : List E)
/-- how many things a tree of a level has at most: a module's rows 24, all else 8 -/
def bE (m : Nat) : Nat := if m ≤ 0 then 24 else 24
def EAt (ok : Addr → Prop) (kk : Bool → Prop) (H : Hp) : Nat → V → E → Prop
  | _, v, .at x => v = x ∧ isAtom x = true
  | m + 1, v, .sq es => ∃ xs, At ok kk H v xs ∧ es.length ≤ bE m ∧ Paired (EAt ok kk H m) xs es
  | 0, _, .sq _ => False
theorem EAt.gen {ok ok' : Addr → Prop} {kk kk' : Bool → Prop} {H H' : Hp} (t : Keep ok ok' H H') (tk : ∀ b, kk b → kk' b) : ∀ (m : Nat) (v : V) (e : E), EAt ok kk H m v e → EAt ok' kk' H' m v e := by
  intro m
  induction m with
  | zero =>
    intro v e h
    cases e with
    | «at» x => exact h
    | sq es => exact h.elim
  | succ m ih =>
    intro v e h
    cases e with
    | «at» x => exact h
    | sq es =>
      obtain ⟨xs, h1, h2, h3⟩ := h
      exact ⟨xs, (h1.to t).kinds tk, h2, paired_imp h3 ih⟩
theorem EAt.to {ok ok' : Addr → Prop} {kk : Bool → Prop} {H H' : Hp} {m : Nat} {v : V} {e : E} (h : EAt ok kk H m v e) (t : Keep ok ok' H H') : EAt ok' kk H' m v e := EAt.gen t (fun _ h => h) m v e h
theorem fld_atom {k : Bool} {v : V} (h : fldOk k v = true) : isAtom v = true := by
  cases k <;> cases v <;> first | rfl | cases h
theorem paired_impM {α β : Type} {R S : α → β → Prop} : ∀ {xs : List α} {ys : List β}, Paired R xs ys → (∀ x y, y ∈ ys → R x y → S x y) → Paired S xs ys
  | _, _, .nil, _ => .nil
  | _, _, .cons r t, f => .cons (f _ _ (by simp) r) (paired_impM t fun x y hy => f x y (by simp [hy]))
theorem plain_len {w : Str} {ks : List Bool} (h : (w, ks) ∈ plainT) : ks.length ≤ 3 := by
  have : ∀ p ∈ plainT, p.2.length ≤ 3 := by decide +kernel
  exact this _ h
theorem plain_atoms {wi : Bool} {w : Str} {fs : List V} (h : plainOk wi w fs) : (∀ v ∈ fs, isAtom v = true) ∧ fs.length ≤ 3 := by
  obtain ⟨ks, hk, hp, _⟩ := h
  refine ⟨fun v hv => ?_, by rw [← paired_len hp]; exact plain_len hk⟩
  obtain ⟨i, hi, e⟩ := List.mem_iff_getElem.mp hv
  obtain ⟨k, _, r⟩ := paired_getR hp (i := i) (y := v) (by rw [List.getElem?_eq_getElem hi, e])
  exact fld_atom r
end Ft
set_option Elab.async false
set_option linter.all false
set_option maxRecDepth 100000
set_option maxHeartbeats 4000000
namespace Ft
open PySem L2
def letters : Str := "abcdefghijklmnopqrstuvwxyz"
theorem letters_mem (c : Nat) : decide (c ∈ letters.cps.toList) = (decide (97 ≤ c) && decide (c ≤ 122)) := by
  have e : letters.cps.toList = List.range' 97 26 := by decide +kernel
  rw [e]
  have : (c ∈ List.range' 97 26) ↔ (97 ≤ c ∧ c ≤ 122) := by
    rw [List.mem_range'_1]
    omega
  by_cases h1 : 97 ≤ c
  · by_cases h2 : c ≤ 122
    · rw [decide_eq_true (this.mpr ⟨h1, h2⟩), decide_eq_true h1, decide_eq_true h2]; rfl
    · rw [decide_eq_false fun h => h2 (this.mp h).2, decide_eq_true h1, decide_eq_false h2]; rfl
  · rw [decide_eq_false fun h => h1 (this.mp h).1, decide_eq_false h1]; rfl
/-- whether a value is a word -/
def wordV : V → Bool
  | .str z => isW z
  | _ => false
/-- .. by its length alone -/
def lenV : V → Bool
  | .str z => decide (1 ≤ z.length) && decide (z.length ≤ 8)
  | _ => false
theorem lenV_str (z : Str) : lenV (.str z) = (decide (1 ≤ z.length) && decide (z.length ≤ 8)) := rfl
def intV : V → Bool
  | .int _ => true
  | _ => false
section
variable {P : Program} {w : World} {K : PySem.W.Frag} {mg : Str → Option Value} {base : Heap}
/-- what is known of any object that is asked -/
def Known (K : PySem.W.Frag) (H : Hp) (v : V) : Prop := (∃ z : Str, v = .str z ∧ z.length ≤ sizeLine) ∨ v = .non ∨ (∃ b, v = .bl b) ∨ (∃ i, v = .int i) ∨ ∃ a T, v = .ref a ∧ TyX K H v (.type T) ∧ T ∈ ["list", "tuple", "dict"]
abbrev sIsInteger : Stmt := topS 8
theorem scIsInteger : FnScope ["thing"] ["thing"] (defScope sIsInteger) := ⟨rfl, rfl, rfl, by decide +kernel, rfl, by decide +kernel, by decide +kernel⟩
def spIsInteger (K : PySem.W.Frag) : Sp := fun vs H Q _ => ∃ v, vs = [v] ∧ Known K H v ∧ Q (.bl (intV v)) H
theorem ok_IsInteger {f : Addr} {fd : FuncData} {k : Nat} (F : Fun K "is_integer" "is_integer" sIsInteger f fd) (B : Bl mg) : FnOk P w K mg base CX0 (k + 1) f fd ["thing"] (spIsInteger K) := by
  refine F.ok scIsInteger (fun vs H Q E h => ?_) (fun cdv A outer s H vs Q E hr h => ?_)
  · obtain ⟨v, rfl, _⟩ := h
    rfl
  obtain ⟨v, rfl, hv, q⟩ := h
  refine ⟨_, (pss_one (ps_ret (pe_and (pe_callB call_isi (by rfl) B.isinstance (by decide +kernel) (pa_cons (pv 0) (pa_cons (pe_bltn (v := .ty "int") (by rfl) B.int (by decide +kernel) rfl) pa_nil))) (pe_one (pe_not (pe_callB call_isi (by rfl) B.isinstance (by decide +kernel) (pa_cons (pv 0) (pa_cons (pe_bltn (v := .ty "bool") (by rfl) B.bool (by decide +kernel) rfl) pa_nil)))))))), ?_⟩
  rcases hv with ⟨z, rfl, hz⟩ | rfl | ⟨b, rfl⟩ | ⟨i, rfl⟩ | ⟨a, T, rfl, ht, hm⟩
  · exact ⟨_, rfl, _, _, _, _, _, rfl, .ty _, .base (.str z), kit_ty (r := false) (by decide +kernel), false, rfl, iteF q⟩
  · exact ⟨_, rfl, _, _, _, _, _, rfl, .ty _, .base .non, kit_ty (r := false) (by decide +kernel), false, rfl, iteF q⟩
  · exact ⟨_, rfl, _, _, _, _, _, rfl, .ty _, .base (.bl b), kit_ty (r := true) (by decide +kernel), true, rfl, iteT ⟨_, rfl, _, _, _, _, _, rfl, .ty _, .base (.bl b), kit_ty (r := true) (by decide +kernel), true, rfl, q⟩⟩
  · exact ⟨_, rfl, _, _, _, _, _, rfl, .ty _, .base (.int i), kit_ty (r := true) (by decide +kernel), true, rfl, iteT ⟨_, rfl, _, _, _, _, _, rfl, .ty _, .base (.int i), kit_ty (r := false) (by decide +kernel), false, rfl, q⟩⟩
  · have hk : kitB T "int" = some false := by
      have : ∀ T ∈ ["list", "tuple", "dict"], kitB T "int" = some false := by decide +kernel
      exact this T hm
    exact ⟨_, rfl, _, _, _, _, _, rfl, .ty _, ht, kit_ty hk, false, rfl, iteF q⟩
abbrev sIsWord : Stmt := topS 9
theorem scIsWord : FnScope ["thing", "sign"] ["thing"] (defScope sIsWord) := ⟨rfl, rfl, rfl, by decide +kernel, rfl, by decide +kernel, by decide +kernel⟩
def spIsWord (K : PySem.W.Frag) : Sp := fun vs H Q _ => ∃ v, vs = [v] ∧ Known K H v ∧ ∀ H', Same H H' → Q (.bl (wordV v)) H'
theorem ok_IsWord {f : Addr} {fd : FuncData} {k : Nat} {tL : Tok} (F : Fun K "is_word" "is_word" sIsWord f fd) (B : Bl mg) (mL : mg "LETTERS" = some (.str letters tL)) : FnOk P w K mg base CX0 (k + 1) f fd ["thing"] (spIsWord K) := by
  refine F.ok scIsWord (fun vs H Q E h => ?_) (fun cdv A outer s H vs Q E hr h => ?_)
  · obtain ⟨v, rfl, _⟩ := h
    rfl
  obtain ⟨v, rfl, hv, q⟩ := h
  refine ⟨_, (pss_cons (ps_if (pt_mid (PW.pt (pw_or (pt_not (pt_val (pe_callB call_isi (by rfl) B.isinstance (by decide +kernel) (pa_cons (pv 0) (pa_cons (pe_bltn (v := .ty "str") (by rfl) B.str (by decide +kernel) rfl) pa_nil))))) (pw_or1 (pt_not (pt_chain op_le op_le pe_int (pe_callB call_len_str (by rfl) B.len (by decide +kernel) (pa_cons (pv 0) pa_nil)) pe_int)))))) (pss_one (ps_ret pe_bl)) pss_nil)
      (pss_one (ps_ret (pe_callB (cr_all rfl) (by rfl) B.all (by decide +kernel) (pa_cons (pe_lc (own := [("sign", 1)]) (g := (gName 1)) (tt := tYes) (by rfl) scIsWord.nd (pi_str (pv 0)) (blkOk_by (own := [("sign", 1)]) (N := ["thing", "sign"]) (sc := defScope sIsWord) (by decide +kernel)) (fun _ _ _ _ _ => (pg_name (i := 1) scIsWord.nd rfl (by first | exact Or.inl rfl | exact Or.inr rfl))) (fun _ _ _ _ _ => pts_nil) (fun _ _ _ _ _ => (pe_cmpR op_in_sign (pv 1) (pe_glob (v := .str letters) (by rfl) mL ⟨_, rfl⟩) (by rfl)))) pa_nil))))), ?_⟩
  refine ⟨fun b H' => H = H' ∧ b = !lenV v, ?_, ?_⟩
  · have no : ∀ {T : String}, TyX K H v (.type T) → kitB T "str" = some false → lenV v = false → rIsi K [v, .ty "str"] H fun x H1 => ∃ k, x = V.bl k ∧ if (!k) = true then (H = H1 ∧ true = !lenV v) else False := fun {T} t hk hw =>
      ⟨_, _, _, _, _, rfl, .ty _, t, kit_ty hk, false, rfl, iteT ⟨rfl, by rw [hw]; rfl⟩⟩
    rcases hv with ⟨z, rfl, hz⟩ | rfl | ⟨b, rfl⟩ | ⟨i, rfl⟩ | ⟨a, T, rfl, ht, hm⟩
    · refine ⟨_, rfl, _, _, _, _, _, rfl, .ty _, .base (.str z), kit_ty (r := true) (by decide +kernel), true, rfl, iteF ?_⟩
      refine ⟨_, rfl, _, rfl, hz, 1, _, rfl, rfl, _, rfl, ite2 (fun c => ?_) (fun c => ?_)⟩
      · have c' : (1 : Int) ≤ z.length := of_decide_eq_true c
        refine ⟨_, 8, rfl, rfl, _, rfl, rfl, ?_⟩
        rw [lenV_str]
        have e1 : decide (1 ≤ z.length) = true := decide_eq_true (by omega)
        rw [e1, Bool.true_and]
        congr 1
        exact decide_eq_decide.mpr (by omega)
      · have c' : ¬ (1 : Int) ≤ z.length := fun h => c (decide_eq_true h)
        refine ⟨_, rfl, rfl, ?_⟩
        rw [lenV_str, decide_eq_false (show ¬ 1 ≤ z.length by omega)]
        rfl
    · exact ⟨_, rfl, _, _, _, _, _, rfl, .ty _, .base .non, kit_ty (r := false) (by decide +kernel), false, rfl, iteT ⟨rfl, rfl⟩⟩
    · exact ⟨_, rfl, _, _, _, _, _, rfl, .ty _, .base (.bl b), kit_ty (r := false) (by decide +kernel), false, rfl, iteT ⟨rfl, rfl⟩⟩
    · exact ⟨_, rfl, _, _, _, _, _, rfl, .ty _, .base (.int i), kit_ty (r := false) (by decide +kernel), false, rfl, iteT ⟨rfl, rfl⟩⟩
    · have hk : kitB T "str" = some false := by
        have : ∀ T ∈ ["list", "tuple", "dict"], kitB T "str" = some false := by decide +kernel
        exact this T hm
      exact ⟨_, rfl, _, _, _, _, _, rfl, .ty _, ht, kit_ty hk, false, rfl, iteT ⟨rfl, rfl⟩⟩
  rintro b _ ⟨rfl, rfl⟩
  cases hl : lenV v with
  | false =>
    refine iteT ?_
    have hw : wordV v = false := by
      cases v with
      | str z =>
        show isW z = false
        rw [lenV_str] at hl
        unfold isW
        rw [← Bool.and_assoc, hl]
        rfl
      | _ => rfl
    have := q H (Same.refl H)
    rw [hw] at this
    exact this
  | true =>
    refine iteF ?_
    obtain ⟨z, rfl⟩ : ∃ z, v = .str z := by
      cases v with
      | str z => exact ⟨z, rfl⟩
      | _ => cases hl
    have hw : wordV (.str z) = z.cps.toList.all fun c => decide (97 ≤ c) && decide (c ≤ 122) := by
      show isW z = _
      rw [lenV_str] at hl
      unfold isW
      rw [← Bool.and_assoc, hl]
      rfl
    have hsz : z.length ≤ 8 := by
      rw [lenV_str, Bool.and_eq_true] at hl
      exact of_decide_eq_true hl.2
    refine ⟨_, rfl, z, rfl, fun D nD => ?_⟩
    refine lc_it walk_str (fun i H' => Same H H' ∧ H' D = some (.lst (((z.cps.toList.take i).map fun c => decide (97 ≤ c) && decide (c ≤ 122)).map V.bl)))
      ⟨Same.new nD, upd_same⟩ (fun _ _ _ _ => trivial) ?_ ?_
    · rintro i x H1 H2 hi ⟨sm, hD⟩ ⟨rfl, c, hc, rfl⟩
      refine ⟨rfl, ?_⟩
      refine ⟨_, rfl, c, letters, rfl, rfl, _, hD, ?_, Same.upN sm nD, ?_⟩
      · rw [List.length_map, List.length_map, List.length_take]
        have : z.cps.toList.length = z.length := rfl
        exact small (by omega)
      · have hc' : z.cps.toList[i]? = some c := by rw [Array.getElem?_toList]; exact hc
        rw [upd_same, List.take_add_one, hc', List.map_append, List.map_append, letters_mem]
        rfl
    · rintro H1 ⟨sm, hD⟩
      have e : z.cps.toList.take z.cps.size = z.cps.toList := List.take_of_length_le (by simp)
      rw [e] at hD
      refine ⟨D, _, rfl, SqL.of hD, ?_⟩
      have e2 : ((z.cps.toList.map fun c => decide (97 ≤ c) && decide (c ≤ 122)).all id) = wordV (.str z) := by
        rw [hw, List.all_map]
        rfl
      rw [e2]
      exact q _ sm
end
end Ft
set_option Elab.async false
set_option linter.all false
set_option maxRecDepth 100000
set_option maxHeartbeats 4000000
namespace Ft
open PySem L2
theorem sl_seq {X : Cx} : SlR X (fun x lo hi H Q => rSlL X.K x lo hi H Q ∨ rSlT X.K x lo hi H Q) := SlR.or sl_list sl_tup
theorem TyOf.same {K : PySem.W.Frag} {H H' : Hp} {v : V} {t : Value} (h : TyOf K H v t) (s : Same H H') : TyOf K H' v t := by
  cases h with
  | non => exact .non
  | bl x => exact .bl x
  | int i => exact .int i
  | str x => exact .str x
  | flt x => exact .flt x
  | lst e => exact .lst (s _ _ e)
  | frz e => exact .frz (s _ _ e)
  | tup e => exact .tup (s _ _ e)
  | dK e => exact .dK (s _ _ e)
  | dT e => exact .dT (s _ _ e)
  | ins e a b c d f => exact .ins (s _ _ e) a b c d f
theorem TyX.same {K : PySem.W.Frag} {H H' : Hp} {v : V} {t : Value} (h : TyX K H v t) (s : Same H H') : TyX K H' v t := by
  cases h with
  | base h => exact .base (TyOf.same h s)
  | byt b => exact .byt b
  | set e => exact .set (s _ _ e)
  | kList e c => exact .kList e c
  | kTuple e c => exact .kTuple e c
  | kDict e c => exact .kDict e c
  | fTuple e => exact .fTuple (s _ _ e)
  | fDict e => exact .fDict (s _ _ e)
theorem Known.same {K : PySem.W.Frag} {H H' : Hp} {v : V} (h : Known K H v) (s : Same H H') : Known K H' v := by
  rcases h with h | h | h | h | ⟨a, T, e, t, m⟩
  · exact .inl h
  · exact .inr (.inl h)
  · exact .inr (.inr (.inl h))
  · exact .inr (.inr (.inr (.inl h)))
  · exact .inr (.inr (.inr (.inr ⟨a, T, e, TyX.same t s, m⟩)))
/-- .. and whether it is a list or a tuple -/
def KnownS (K : PySem.W.Frag) (H : Hp) (sq : V → Bool) (v : V) : Prop := Known K H v ∧ ∃ T, TyX K H v (.type T) ∧ kitAnyB T ["list", "tuple"] = some (sq v)
theorem KnownS.same {K : PySem.W.Frag} {H H' : Hp} {sq : V → Bool} {v : V} (h : KnownS K H sq v) (s : Same H H') : KnownS K H' sq v := by
  obtain ⟨h1, T, h2, h3⟩ := h
  exact ⟨h1.same s, T, TyX.same h2 s, h3⟩
theorem rIx_seq {kd : Bool} {K : PySem.W.Frag} {H : Hp} {a : Addr} {xs : List V} {i : Int} {v : V} {Q : VK} (h : Sq kd K H a xs) (e : atI xs i = some v) (q : Q v H) : rIx K (.ref a) (.int i) H Q := by
  cases kd with
  | true => exact .inl ⟨a, xs, i, v, rfl, rfl, h, e, q⟩
  | false => exact .inr (.inl ⟨a, xs, i, v, rfl, rfl, h, e, q⟩)
def fieldsT : List (Str × List Str) := [("load", ["word", "word"]), ("pick", ["word", "word", "word"]), ("put", ["word", "number"]), ("copy", ["word", "word"]), ("part", ["word", "word", "word"]), ("drop", ["word"]), ("say", ["number"]), ("tell", ["word"]), ("seen", ["word", "word"]), ("fail", ["number"]), ("make", ["word", "block"]), ("call", ["word"]), ("when", ["word", "block", "block"]), ("try", ["block", "block"])]
def fieldsOf (z : Str) : Option (List Str) := (fieldsT.find? fun p => decide (p.1 = z)).map (·.2)
theorem fieldsOf_some {z : Str} {fs : List Str} (h : fieldsOf z = some fs) : (z, fs) ∈ fieldsT := by
  unfold fieldsOf at h
  obtain ⟨p, hp, e⟩ := Option.map_eq_some_iff.mp h
  have h1 := List.mem_of_find?_eq_some hp
  have h2 : p.1 = z := by simpa using List.find?_some hp
  rw [← h2, ← e]
  exact h1
theorem fieldsOf_none {z : Str} (h : fieldsOf z = none) : z ∉ fieldsT.map (·.1) := by
  intro hz
  obtain ⟨p, hp, e⟩ := List.mem_map.mp hz
  unfold fieldsOf at h
  have := List.find?_eq_none.mp (Option.map_eq_none_iff.mp h) p hp
  exact this (decide_eq_true e)
theorem fields_len {z : Str} {fs : List Str} (h : (z, fs) ∈ fieldsT) : fs.length ≤ 3 := by
  have : ∀ p ∈ fieldsT, p.2.length ≤ 3 := by decide +kernel
  exact this _ h
/-- the written table of the fields -/
structure FldT (K : PySem.W.Frag) (w : World) (mg : Str → Option Value) (dF : Addr) : Prop where
  g : mg "FIELDS" = some (.ref dF)
  dict : ∃ es n, KDict K w dF es n
  val : ∀ p ∈ fieldsT, ∃ tA, PySem.W.nsIn K dF p.1 = some (some (.ref tA)) ∧ ∀ H, SqT K H tA (p.2.map V.str)
  no : ∀ z, z ∉ fieldsT.map (·.1) → PySem.W.nsIn K dF z = some none
def fieldB (sq : V → Bool) (f : Str) (v : V) : Bool := if f = "word" then wordV v else if f = "number" then intV v else sq v
/-- whether things are a row, but for the rows in its blocks -/
def rowB (sq : V → Bool) (wi : Bool) : List V → Bool
  | .str z :: rest => match fieldsOf z with
    | some fs => !(wi && (decide (z = "make") || decide (z = "call"))) && (decide (rest.length = fs.length) && ((fs.zip rest).all fun p => fieldB sq p.1 p.2))
    | none => false
  | _ => false
theorem rowB_str (sq : V → Bool) (wi : Bool) (z : Str) (rest : List V) : rowB sq wi (.str z :: rest) = match fieldsOf z with
    | some fs => !(wi && (decide (z = "make") || decide (z = "call"))) && (decide (rest.length = fs.length) && ((fs.zip rest).all fun p => fieldB sq p.1 p.2))
    | none => false := rfl
section
variable {P : Program} {w : World} {K : PySem.W.Frag} {mg : Str → Option Value} {base : Heap}
abbrev sIsField : Stmt := topS 14
theorem scIsField : FnScope ["field", "part"] ["field", "part"] (defScope sIsField) := ⟨rfl, rfl, rfl, by decide +kernel, rfl, by decide +kernel, by decide +kernel⟩
def spIsField (K : PySem.W.Frag) : Sp := fun vs H Q _ => ∃ (f : Str) (v : V) (sq : V → Bool), vs = [.str f, v] ∧ KnownS K H sq v ∧ ∀ H', Same H H' → Q (.bl (fieldB sq f v)) H'
theorem ok_IsField {f : Addr} {fd : FuncData} {k : Nat} (F : Fun K "is_field" "is_field" sIsField f fd) (B : Bl mg) (gIsWord : Own P w K mg base k "is_word" ["thing"] (spIsWord K)) (gIsInteger : Own P w K mg base k "is_integer" ["thing"] (spIsInteger K)) : FnOk P w K mg base CX0 (k + 1) f fd ["field", "part"] (spIsField K) := by
  refine F.ok scIsField (fun vs H Q E h => ?_) (fun cdv A outer s H vs Q E hr h => ?_)
  · obtain ⟨f, v, sq, rfl, _⟩ := h
    rfl
  obtain ⟨f, v, sq, rfl, hv, q⟩ := h
  refine ⟨_, (pss_cons (ps_if (pt_cmpR op_eq (pv 0) pe_str (nomark _)) (pss_one (ps_ret (pe_own gIsWord (hr.mono (by omega)) (by rfl) (pa_cons (pv 1) pa_nil)))) pss_nil)
      (pss_cons (ps_if (pt_cmpR op_eq (pv 0) pe_str (nomark _)) (pss_one (ps_ret (pe_own gIsInteger (hr.mono (by omega)) (by rfl) (pa_cons (pv 1) pa_nil)))) pss_nil)
      (pss_one (ps_ret (pe_callB call_isiT (by rfl) B.isinstance (by decide +kernel) (pa_cons (pv 1) (pa_cons (pe_tup (pa_cons (pe_bltn (v := .ty "list") (by rfl) B.list (by decide +kernel) rfl) (pa_cons (pe_bltn (v := .ty "tuple") (by rfl) B.tuple (by decide +kernel) rfl) pa_nil))) pa_nil))))))), ?_⟩
  refine ⟨_, rfl, rfl, _, rfl, ite2 (fun c => ?_) (fun c => ?_)⟩
  · have e : f = "word" := V.str.inj (of_decide_eq_true c)
    refine ⟨_, rfl, v, rfl, hv.1, fun H' sm => ?_⟩
    have := q H' sm
    unfold fieldB at this
    rw [if_pos e] at this
    exact this
  · have e : ¬ f = "word" := fun h => c (by rw [h]; exact decide_eq_true rfl)
    refine ⟨_, rfl, rfl, _, rfl, ite2 (fun c2 => ?_) (fun c2 => ?_)⟩
    · have e2 : f = "number" := V.str.inj (of_decide_eq_true c2)
      refine ⟨_, rfl, v, rfl, hv.1, ?_⟩
      have := q H (Same.refl H)
      unfold fieldB at this
      rw [if_neg e, if_pos e2] at this
      exact this
    · have e2 : ¬ f = "number" := fun h => c2 (by rw [h]; exact decide_eq_true rfl)
      obtain ⟨h1, T, h2, h3⟩ := hv
      refine ⟨_, rfl, (by show 2 ≤ sizeLine; decide), fun t0 nt => ?_⟩
      have := q _ (Same.new (o := .tup [.ty "list", .ty "tuple"]) nt)
      unfold fieldB at this
      rw [if_neg e, if_neg e2] at this
      exact ⟨_, t0, _, _, _, _, rfl, upd_same, clsV_all ["list", "tuple"], TyX.same h2 (Same.new nt), kitAny_of h3, this⟩
abbrev sIsRow : Stmt := topS 15
theorem scIsRow : FnScope ["thing", "is_within", "fields", "field", "part"] ["thing", "is_within"] (defScope sIsRow) := ⟨rfl, rfl, rfl, by decide +kernel, rfl, by decide +kernel, by decide +kernel⟩
def spIsRow (K : PySem.W.Frag) : Sp := fun vs H Q _ => ∃ (v : V) (wi : Bool), vs = [v, .bl wi] ∧
  ((∃ T, TyX K H v (.type T) ∧ kitAnyB T ["list", "tuple"] = some false ∧ ∀ H', Same H H' → Q (.bl false) H') ∨
   ∃ (a : Addr) (kd : Bool) (xs : List V) (sq : V → Bool), v = .ref a ∧ H a = some (mkO kd xs) ∧ xs.length ≤ 1000 ∧ (∀ x ∈ xs, KnownS K H sq x) ∧ ∀ H', Same H H' → Q (.bl (rowB sq wi xs)) H')
theorem ok_IsRow {f dF : Addr} {fd : FuncData} {k : Nat} (F : Fun K "is_row" "is_row" sIsRow f fd) (B : Bl mg) (TF : FldT K w mg dF) (gIsField : Own P w K mg base k "is_field" ["field", "part"] (spIsField K)) : FnOk P w K mg base CX0 (k + 1) f fd ["thing", "is_within"] (spIsRow K) := by
  obtain ⟨es, nn, D⟩ := TF.dict
  refine F.ok scIsRow (fun vs H Q E h => ?_) (fun cdv A outer s H vs Q E hr h => ?_)
  · obtain ⟨v, wi, rfl, _⟩ := h
    rfl
  obtain ⟨v, wi, rfl, hv⟩ := h
  refine ⟨_, (pss_cons (ps_if (PW.pt (pw_or (pt_not (pt_val (pe_callB call_isiT (by rfl) B.isinstance (by decide +kernel) (pa_cons (pv 0) (pa_cons (pe_tup (pa_cons (pe_bltn (v := .ty "list") (by rfl) B.list (by decide +kernel) rfl) (pa_cons (pe_bltn (v := .ty "tuple") (by rfl) B.tuple (by decide +kernel) rfl) pa_nil))) pa_nil))))) (pw_or1 (pt_cmpR op_eq (pe_callB call_len_seq (by rfl) B.len (by decide +kernel) (pa_cons (pv 0) pa_nil)) pe_int (nomark _))))) (pss_one (ps_ret pe_bl)) pss_nil)
      (pss_cons (ps_if (pt_mid (PW.pt (pw_or (pt_not (pt_val (pe_callB call_isi (by rfl) B.isinstance (by decide +kernel) (pa_cons (pe_ix ix_seq (pv 0) pe_int (fun _ _ => rfl)) (pa_cons (pe_bltn (v := .ty "str") (by rfl) B.str (by decide +kernel) rfl) pa_nil))))) (pw_or (pt_cmpR (op_notIn_kd D) (pe_ix ix_seq (pv 0) pe_int (fun _ _ => rfl)) (pe_glob (v := .ref dF) (by rfl) TF.g rfl) (by rfl)) (pw_or1 (PW.pt (pw_and (pt_val (pv 1)) (pw_and1 (pt_cmpR op_in_seq (pe_ix ix_seq (pv 0) pe_int (fun _ _ => rfl)) (pe_tup (pa_cons pe_str (pa_cons pe_str pa_nil))) (by rfl)))))))))) (pss_one (ps_ret pe_bl)) pss_nil)
      (pss_cons (ps_set (i := 2) scIsRow.nd rfl (by first | exact Or.inl rfl | exact Or.inr rfl) (pe_ix ix_kdict (pe_glob (v := .ref dF) (by rfl) TF.g rfl) (pe_ix ix_seq (pv 0) pe_int (fun _ _ => rfl)) (fun _ _ => rfl)))
      (pss_one (ps_ret (pe_and (pe_cmpR op_eq (pe_callB call_len_seq (by rfl) B.len (by decide +kernel) (pa_cons (pv 0) pa_nil)) (pe_op op_add (pe_callB call_len_seq (by rfl) B.len (by decide +kernel) (pa_cons (pv 2) pa_nil)) pe_int) (nomark _)) (pe_one (pe_callB (cr_all rfl) (by rfl) B.all (by decide +kernel) (pa_cons (pe_lc (own := [("field", 3), ("part", 4)]) (g := (gTup _ 2 (gCons (gName 3) (gCons (gName 4) gNil)))) (tt := tYes) (by rfl) scIsRow.nd (pi_zipQ (by rfl) B.zip (pa_cons (pv 2) (pa_cons (pe_mid (pe_slice sl_seq (pv 0) (po_some pe_int) po_none)) pa_nil))) (blkOk_by (own := [("field", 3), ("part", 4)]) (N := ["thing", "is_within", "fields", "field", "part"]) (sc := defScope sIsRow) (by decide +kernel)) (fun _ _ _ _ _ => (pg_tup (by rfl) (pgs_cons (pg_name (i := 3) scIsRow.nd rfl (by first | exact Or.inl rfl | exact Or.inr rfl)) (pgs_cons (pg_name (i := 4) scIsRow.nd rfl (by first | exact Or.inl rfl | exact Or.inr rfl)) pgs_nil)))) (fun _ _ _ _ _ => pts_nil) (fun _ _ _ _ _ => (pe_own gIsField (hr.mono (by omega)) (by rfl) (pa_cons (pv 3) (pa_cons (pv 4) pa_nil))))) pa_nil))))))))), ?_⟩
  have lt : ∀ t0, H t0 = none → (upd H t0 (.tup [.ty "list", .ty "tuple"])) t0 = some (.tup ((["list", "tuple"] : List String).map V.ty)) := fun _ _ => upd_same
  refine ⟨_, rfl, (by show 2 ≤ sizeLine; decide), fun t0 nt => ?_⟩
  have s0 : Same H (upd H t0 (.tup [.ty "list", .ty "tuple"])) := Same.new nt
  rcases hv with ⟨T, h1, h2, q⟩ | ⟨a, kd, xs, sq, rfl, ha, hlen, hxs, q⟩
  · exact ⟨_, t0, _, _, _, _, rfl, upd_same, clsV_all ["list", "tuple"], TyX.same h1 s0, kitAny_of h2, false, rfl, iteT (q _ s0)⟩
  have ha0 := s0 _ _ ha
  refine ⟨_, t0, _, _, _, _, rfl, upd_same, clsV_all ["list", "tuple"], seq_ty ha0, kitAny_of (seq_lt kd), true, rfl, iteF ?_⟩
  refine ⟨_, rfl, a, xs, rfl, sqa_of (sq_of ha0), rfl, _, rfl, ?_⟩
  cases xs with
  | nil => exact iteT (q _ s0)
  | cons x0 rest =>
    have e0 : decide (V.int (((x0 :: rest : List V).length : Nat) : Int) = V.int 0) = false := decide_eq_false (fun e => by
      have := V.int.inj e
      simp at this
      omega)
    rw [e0]
    refine iteF ?_
    generalize hG : upd H t0 _ = G at *
    have hx0 : KnownS K G sq x0 := (hxs x0 (by simp)).same s0
    have ix : ∀ {Q' : VK}, Q' x0 G → rIx K (.ref a) (.int 0) G Q' := fun h => rIx_seq (sq_of ha0) (atI_nat (j := 0) rfl) h
    -- no word of a row at all
    have no : (∀ z, x0 ≠ .str z) → rowB sq wi (x0 :: rest) = false := fun h => by
      unfold rowB
      cases x0 with
      | str z => exact absurd rfl (h z)
      | _ => rfl
    have noQ : ∀ H', Same H H' → rowB sq wi (x0 :: rest) = false → Q (.bl false) H' := fun H' sm e => by
      have := q H' sm
      rw [e] at this
      exact this
    refine ⟨fun b H' => Same H H' ∧ (b = true → rowB sq wi (x0 :: rest) = false) ∧ (b = false → ∃ z fs, x0 = .str z ∧ fieldsOf z = some fs ∧ (wi && (decide (z = "make") || decide (z = "call"))) = false), ?_, ?_⟩
    · rcases hx0.1 with ⟨z, rfl, hz⟩ | rfl | ⟨b, rfl⟩ | ⟨i, rfl⟩ | ⟨a', T, rfl, ht, hm⟩
      rotate_left
      · exact ⟨_, rfl, ix ⟨_, _, _, _, _, rfl, .ty _, .base .non, kit_ty (r := false) (by decide +kernel), false, rfl, iteT ⟨s0, fun _ => no fun z e => (nomatch e), fun e => (nomatch e)⟩⟩⟩
      · exact ⟨_, rfl, ix ⟨_, _, _, _, _, rfl, .ty _, .base (.bl b), kit_ty (r := false) (by decide +kernel), false, rfl, iteT ⟨s0, fun _ => no fun z e => (nomatch e), fun e => (nomatch e)⟩⟩⟩
      · exact ⟨_, rfl, ix ⟨_, _, _, _, _, rfl, .ty _, .base (.int i), kit_ty (r := false) (by decide +kernel), false, rfl, iteT ⟨s0, fun _ => no fun z e => (nomatch e), fun e => (nomatch e)⟩⟩⟩
      · have hk : kitB T "str" = some false := by
          have : ∀ T ∈ ["list", "tuple", "dict"], kitB T "str" = some false := by decide +kernel
          exact this T hm
        exact ⟨_, rfl, ix ⟨_, _, _, _, _, rfl, .ty _, ht, kit_ty hk, false, rfl, iteT ⟨s0, fun _ => no fun z e => (nomatch e), fun e => (nomatch e)⟩⟩⟩
      refine ⟨_, rfl, ix ⟨_, _, _, _, _, rfl, .ty _, .base (.str z), kit_ty (r := true) (by decide +kernel), true, rfl, iteF ?_⟩⟩
      -- thing[0] not in FIELDS
      cases hf : fieldsOf z with
      | none =>
        have e : rowB sq wi (.str z :: rest) = false := by
          rw [rowB_str, hf]
        exact ⟨_, rfl, ix ⟨z, none, rfl, rfl, TF.no z (fieldsOf_none hf), true, rfl, iteT ⟨s0, fun _ => e, fun e => (nomatch e)⟩⟩⟩
      | some fs =>
        have hfs := fieldsOf_some hf
        obtain ⟨tA, hn, htA⟩ := TF.val _ hfs
        refine ⟨_, rfl, ix ⟨z, some (.ref tA), rfl, rfl, hn, false, rfl, iteF ?_⟩⟩
        cases wi with
        | false => exact ⟨_, rfl, false, rfl, iteF ⟨s0, fun e => (nomatch e), fun _ => ⟨z, fs, rfl, hf, rfl⟩⟩⟩
        | true =>
          refine ⟨_, rfl, true, rfl, iteT ⟨_, rfl, ix ⟨(by show 2 ≤ sizeLine; decide), fun t1 nt1 => ?_⟩⟩⟩
          have mc : inV (.str z) [.str "make", .str "call"] = (decide (z = "make") || decide (z = "call")) := by
            show (eqV (.str "make") (.str z) || (eqV (.str "call") (.str z) || false)) = _
            rw [Bool.or_false]
            have h1 : ∀ a b : Str, eqV (.str a) (.str b) = decide (b = a) := fun a b => by
              show (a == b) = _
              by_cases e : b = a
              · rw [e]; simp
              · have e' : ¬ a = b := fun h => e h.symm
                simp [e, e']
            rw [h1, h1]
          refine ⟨t1, _, rfl, .inr (SqT.of upd_same), rfl, rfl, _, rfl, Same.trans s0 (Same.new nt1), fun e => ?_, fun e => ⟨z, fs, rfl, hf, ?_⟩⟩
          · have e' : (decide (z = "make") || decide (z = "call")) = true := by rw [← mc]; exact e
            rw [rowB_str, hf]
            show (!(true && (decide (z = "make") || decide (z = "call"))) && _) = false
            rw [e']
            rfl
          · rw [Bool.true_and, ← mc]
            exact e
    rintro b G2 ⟨sm, hT, hF⟩
    cases b with
    | true => exact iteT (noQ _ sm (hT rfl))
    | false =>
      refine iteF ?_
      obtain ⟨z, fs, rfl, hf, hno⟩ := hF rfl
      have hfs := fieldsOf_some hf
      obtain ⟨tA, hn, htA⟩ := TF.val _ hfs
      have er : rowB sq wi (.str z :: rest) = (decide (rest.length = fs.length) && ((fs.zip rest).all fun p => fieldB sq p.1 p.2)) := by
        rw [rowB_str, hf]
        show (!(wi && (decide (z = "make") || decide (z = "call"))) && _) = _
        rw [hno]
        rfl
      have ha2 : G2 a = some (mkO kd (.str z :: rest)) := sm _ _ ha
      have ix2 : ∀ {Q' : VK}, Q' (.str z) G2 → rIx K (.ref a) (.int 0) G2 Q' := fun h => rIx_seq (sq_of ha2) (atI_nat (j := 0) rfl) h
      refine ⟨_, rfl, ix2 ⟨dF, z, .ref tA, rfl, rfl, ⟨es, nn, .ref tA, D.at_, D.lit, hn, rfl⟩, ?_⟩⟩
      have l3 := fields_len hfs
      -- the length
      refine ⟨_, rfl, a, _, rfl, sqa_of (sq_of ha2), _, rfl, tA, _, rfl, .inr (htA G2), _, 1, rfl, rfl, rfl, _, rfl, ?_⟩
      have el : decide (V.int ((((.str z :: rest : List V)).length : Nat) : Int) = V.int ((((fs.map V.str).length : Nat) : Int) + 1)) = decide (rest.length = fs.length) := decide_eq_decide.mpr (by
        rw [List.length_map, List.length_cons]
        constructor
        · intro e
          have := V.int.inj e
          omega
        · intro e
          rw [e]
          rfl)
      refine ite2 (fun c => ?_) (fun c => ?_)
      · have c' : rest.length = fs.length := of_decide_eq_true (el.symm.trans c)
        -- all of the fields
        have cutq : cutV (.str z :: rest) (some 1) none = rest := by
          unfold cutV
          rw [show HT.sIx (V.str z :: rest).length 0 (some 1) = min 1 (V.str z :: rest).length from HT.sIx_nat _ 0 1, HT.sIx_none]
          rw [show min 1 (V.str z :: rest).length = 1 by rw [List.length_cons]; omega]
          show List.take (rest.length + 1 - 1) rest = rest
          rw [Nat.add_sub_cancel, List.take_length]
        refine ⟨_, rfl, ⟨fun v H' => ∃ p kd2, v = .ref p ∧ H' p = some (mkO kd2 rest) ∧ Same G2 H', ?_, ?_⟩⟩
        · have whole : ¬ (HT.sIx (V.str z :: rest).length 0 (some 1) = 0 ∧ HT.sIx (V.str z :: rest).length (V.str z :: rest).length none = (V.str z :: rest).length) := fun ⟨e, _⟩ => by
            rw [show HT.sIx (V.str z :: rest).length 0 (some 1) = min 1 (V.str z :: rest).length from HT.sIx_nat _ 0 1, List.length_cons] at e
            omega
          cases kd with
          | true => exact ⟨_, rfl, 1, rfl, .inl ⟨a, _, rfl, SqL.of ha2, fun p np => ⟨p, true, rfl, by rw [upd_same, cutq]; rfl, Same.new np⟩⟩⟩
          | false => exact ⟨_, rfl, 1, rfl, .inr ⟨a, _, rfl, SqT.of ha2, whole, fun p np => ⟨p, false, rfl, by rw [upd_same, cutq]; rfl, Same.new np⟩⟩⟩
        rintro v G3 ⟨p, kd2, rfl, hp3, sm3⟩
        refine ⟨tA, p, false, kd2, fs.map V.str, rest, rfl, htA G3, sq_of hp3, fun L nL => ?_⟩
        have lm : (fs.map V.str).length = fs.length := List.length_map _
        refine lc_it (walk_zipQ (n := fs.length) (by rw [lm]; omega)) (fun i H' => Same G3 H' ∧ H' L = some (.lst ((((fs.zip rest).take i).map fun p => fieldB sq p.1 p.2).map V.bl)))
          ⟨Same.new nL, upd_same⟩ (fun i H' _ ⟨s4, _⟩ => ⟨htA H', sq_of (s4 _ _ hp3)⟩) ?_ ?_
        · rintro i x H1 H2 hi ⟨s4, hL⟩ ⟨T, x1, x2, rfl, nT, rfl, e1, e2⟩
          obtain ⟨ff, hff, rfl⟩ : ∃ ff, fs[i]? = some ff ∧ x1 = .str ff := by
            have e1' : (fs.map V.str)[i]? = some x1 := e1
            rw [List.getElem?_map] at e1'
            obtain ⟨ff, h1, h2⟩ := Option.map_eq_some_iff.mp e1'
            exact ⟨ff, h1, h2.symm⟩
          have s5 : Same G3 (upd H1 T (.tup [.str ff, x2])) := Same.trans s4 (Same.new nT)
          have kn : KnownS K (upd H1 T (.tup [.str ff, x2])) sq x2 := (hxs x2 (List.mem_cons_of_mem _ (List.mem_of_getElem? e2))).same (Same.trans sm (Same.trans sm3 s5))
          refine ⟨T, _, rfl, SqT.of upd_same, rfl, _, _, rfl, _, _, rfl, rfl, rfl, ?_⟩
          refine ⟨_, rfl, _, rfl, ff, x2, sq, rfl, kn, fun H3 s6 => ?_⟩
          have nLT : L ≠ T := ne_of_none hL nT
          have hL3 : H3 L = some (.lst ((((fs.zip rest).take i).map fun p => fieldB sq p.1 p.2).map V.bl)) := s6 _ _ (by rw [upd_ne nLT]; exact hL)
          refine ⟨_, hL3, ?_, Same.upN (Same.trans s5 s6) nL, ?_⟩
          · rw [List.length_map, List.length_map, List.length_take]
            exact small (by omega)
          · have ez : (fs.zip rest)[i]? = some (ff, x2) := List.getElem?_zip_eq_some.mpr ⟨hff, e2⟩
            rw [upd_same, List.take_add_one, ez, List.map_append, List.map_append]
            rfl
        · rintro H1 ⟨s4, hL⟩
          have e : (fs.zip rest).take fs.length = fs.zip rest := List.take_of_length_le (by rw [List.length_zip]; omega)
          rw [e] at hL
          refine ⟨L, _, rfl, SqL.of hL, ?_⟩
          have e2 : (((fs.zip rest).map fun p => fieldB sq p.1 p.2).all id) = rowB sq wi (.str z :: rest) := by
            rw [er, decide_eq_true c', Bool.true_and, List.all_map]
            rfl
          rw [e2]
          exact q _ (Same.trans sm (Same.trans sm3 s4))
      · have c' : ¬ rest.length = fs.length := fun e => c (el.trans (decide_eq_true e))
        have e : rowB sq wi (.str z :: rest) = false := by rw [er, decide_eq_false c']; rfl
        exact noQ _ sm e
end
end Ft
set_option Elab.async false
set_option linter.all false
set_option maxRecDepth 100000
set_option maxHeartbeats 4000000
namespace Ft
open PySem L2
def rowWord : Row → Str
  | .plain w _ => w
  | .make _ _ => "make"
  | .when _ _ _ => "when"
  | .try_ _ _ => "try"
def blocks : Row → List (List Row)
  | .plain _ _ => []
  | .make _ b => [b]
  | .when _ b c => [b, c]
  | .try_ b c => [b, c]
inductive Fl where
  | at (v : V)
  | blk (b : List Row)
def flds : Row → List (Str × Fl)
  | .plain w fs => ((fieldsOf w).getD []).zip (fs.map Fl.at)
  | .make n b => [("word", .at (.str n)), ("block", .blk b)]
  | .when n b c => [("word", .at (.str n)), ("block", .blk b), ("block", .blk c)]
  | .try_ b c => [("block", .blk b), ("block", .blk c)]
def FlAt (ok : Addr → Prop) (kk : Bool → Bool → Prop) (H : Hp) (d : Nat) (v : V) : Fl → Prop
  | .at x => v = x
  | .blk b => ∃ e, d = e + 1 ∧ RowsAt ok kk H e v b
def FlOk (d : Nat) (wi : Bool) (name : Str) : Fl → Prop
  | .at x => (name = "word" ∧ wordV x = true) ∨ (name = "number" ∧ ∃ i, x = .int i ∧ -999 ≤ i ∧ i ≤ 999)
  | .blk b => name = "block" ∧ ∃ e, d = e + 1 ∧ b.length ≤ 24 ∧ ∀ r ∈ b, RowOk e wi r
theorem plainT_fields : ∀ p ∈ plainT, fieldsOf p.1 = some (p.2.map fun b => if b then ("word" : Str) else "number") := by decide +kernel
theorem plainT_make : ∀ p ∈ plainT, p.1 ≠ "make" := by decide +kernel
theorem fld_plain {k : Bool} {v : V} (h : fldOk k v = true) (d : Nat) (wi : Bool) : FlOk d wi (if k then "word" else "number") (.at v) := by
  cases k with
  | true =>
    cases v with
    | str z => exact .inl ⟨rfl, h⟩
    | _ => cases h
  | false =>
    cases v with
    | int i =>
      unfold fldOk at h
      rw [Bool.and_eq_true] at h
      exact .inr ⟨rfl, i, rfl, of_decide_eq_true h.1, of_decide_eq_true h.2⟩
    | _ => cases h
theorem flds_plain {wi : Bool} {w : Str} {fs : List V} (h : plainOk wi w fs) (d : Nat) (wi' : Bool) : ∃ names, fieldsOf w = some names ∧ names.length = fs.length ∧ (names.zip (fs.map Fl.at)).map (·.1) = names ∧ ∀ f ∈ names.zip (fs.map Fl.at), FlOk d wi' f.1 f.2 := by
  obtain ⟨ks, hk, hp, _⟩ := h
  have e := plainT_fields _ hk
  have hl := paired_len hp
  have go : ∀ {ks : List Bool} {fs : List V}, Paired (fun k v => fldOk k v = true) ks fs → ((ks.map fun b => if b then ("word" : Str) else "number").zip (fs.map Fl.at)).map (·.1) = (ks.map fun b => if b then ("word" : Str) else "number") ∧ ∀ f ∈ (ks.map fun b => if b then ("word" : Str) else "number").zip (fs.map Fl.at), FlOk d wi' f.1 f.2 := by
    intro ks fs h
    induction h with
    | nil => exact ⟨rfl, fun f hf => by cases hf⟩
    | cons r t ih =>
      refine ⟨by rw [List.map_cons, List.map_cons, List.zip_cons_cons, List.map_cons, ih.1], fun f hf => ?_⟩
      rw [List.map_cons, List.map_cons, List.zip_cons_cons] at hf
      rcases List.mem_cons.mp hf with e | hf
      · rw [e]; exact fld_plain r d wi'
      · exact ih.2 f hf
  exact ⟨_, e, by rw [List.length_map]; exact hl, (go hp).1, (go hp).2⟩
structure RowF (d : Nat) (wi : Bool) (r : Row) : Prop where
  names : fieldsOf (rowWord r) = some ((flds r).map (·.1))
  ok : ∀ f ∈ flds r, FlOk d (wi || decide (rowWord r = "make")) f.1 f.2
  few : (flds r).length ≤ 3
  one : 1 ≤ (flds r).length
  word : (wi && (decide (rowWord r = "make") || decide (rowWord r = "call"))) = false
  blk : blocks r = (flds r).filterMap fun f => match f.2 with
    | .blk b => some b
    | .at _ => none
theorem rowF_of {wi : Bool} {r : Row} : ∀ {d : Nat}, RowOk d wi r → RowF d wi r := by
  intro d h
  have plain : ∀ {w : Str} {fs : List V}, plainOk wi w fs → RowF d wi (.plain w fs) := by
    intro w fs h
    obtain ⟨ks, hk, hp, hc⟩ := id h
    have nm : w ≠ "make" := plainT_make _ hk
    obtain ⟨names, e, hl, hz, hok⟩ := flds_plain h d (wi || decide (w = "make"))
    have ef : flds (.plain w fs) = names.zip (fs.map Fl.at) := by
      show ((fieldsOf w).getD []).zip (fs.map Fl.at) = _
      rw [e]; rfl
    have f3 := (plain_atoms h).2
    have f1 : ∀ p ∈ plainT, 1 ≤ p.2.length := by decide +kernel
    have l1 := f1 _ hk
    have l2 := paired_len hp
    refine ⟨by rw [ef, hz]; exact e, by rw [ef]; exact hok, ?_, ?_, ?_, ?_⟩
    · rw [ef, List.length_zip, List.length_map]; omega
    · rw [ef, List.length_zip, List.length_map]
      have : 1 ≤ ks.length := l1
      omega
    · cases wi with
      | false => rfl
      | true =>
        show (decide (w = "make") || decide (w = "call")) = false
        rw [decide_eq_false nm, decide_eq_false (hc rfl)]
        rfl
    · rw [ef]
      show [] = _
      symm
      rw [List.filterMap_eq_nil_iff]
      intro f hf
      obtain ⟨v, _, hv⟩ := List.mem_map.mp (List.of_mem_zip hf).2
      rw [← hv]
  cases d with
  | zero =>
    cases r with
    | plain w fs => exact plain h
    | _ => exact h.elim
  | succ d =>
    cases r with
    | plain w fs => exact plain h
    | make n b =>
      obtain ⟨h1, h2, h3, h4⟩ := h
      subst h1
      refine ⟨by show fieldsOf "make" = some (["word", "block"] : List Str); decide +kernel, fun f hf => ?_, by show 2 ≤ 3; decide, by show 1 ≤ 2; decide, rfl, rfl⟩
      rcases List.mem_cons.mp hf with e | hf
      · rw [e]; exact .inl ⟨rfl, h2⟩
      · rw [List.mem_singleton.mp hf]
        exact ⟨rfl, d, rfl, h3, h4⟩
    | when n b c =>
      obtain ⟨h1, h2, h3, h4, h5⟩ := h
      have ew : (wi || decide (rowWord (.when n b c) = "make")) = wi := by
        show (wi || decide (("when" : Str) = "make")) = wi
        rw [show decide (("when" : Str) = "make") = false by decide +kernel, Bool.or_false]
      refine ⟨by show fieldsOf "when" = some (["word", "block", "block"] : List Str); decide +kernel, fun f hf => ?_, by show 3 ≤ 3; decide, by show 1 ≤ 3; decide, ?_, rfl⟩
      · rw [ew]
        rcases List.mem_cons.mp hf with e | hf
        · rw [e]; exact .inl ⟨rfl, h1⟩
        · rcases List.mem_cons.mp hf with e | hf
          · rw [e]; exact ⟨rfl, d, rfl, h2, h4⟩
          · rw [List.mem_singleton.mp hf]; exact ⟨rfl, d, rfl, h3, h5⟩
      · show (wi && (decide (("when" : Str) = "make") || decide (("when" : Str) = "call"))) = false
        rw [show decide (("when" : Str) = "make") = false by decide +kernel, show decide (("when" : Str) = "call") = false by decide +kernel, Bool.or_false, Bool.and_false]
    | try_ b c =>
      obtain ⟨h2, h3, h4, h5⟩ := h
      have ew : (wi || decide (rowWord (.try_ b c) = "make")) = wi := by
        show (wi || decide (("try" : Str) = "make")) = wi
        rw [show decide (("try" : Str) = "make") = false by decide +kernel, Bool.or_false]
      refine ⟨by show fieldsOf "try" = some (["block", "block"] : List Str); decide +kernel, fun f hf => ?_, by show 2 ≤ 3; decide, by show 1 ≤ 2; decide, ?_, rfl⟩
      · rw [ew]
        rcases List.mem_cons.mp hf with e | hf
        · rw [e]; exact ⟨rfl, d, rfl, h2, h4⟩
        · rw [List.mem_singleton.mp hf]; exact ⟨rfl, d, rfl, h3, h5⟩
      · show (wi && (decide (("try" : Str) = "make") || decide (("try" : Str) = "call"))) = false
        rw [show decide (("try" : Str) = "make") = false by decide +kernel, show decide (("try" : Str) = "call") = false by decide +kernel, Bool.or_false, Bool.and_false]
section
variable {ok : Addr → Prop} {kk : Bool → Bool → Prop} {H : Hp}
theorem zip_at : ∀ {names : List Str} {fs : List V} {d : Nat}, names.length = fs.length → Paired (fun x (f : Str × Fl) => FlAt ok kk H d x f.2) fs (names.zip (fs.map Fl.at))
  | [], [], _, _ => .nil
  | [], _ :: _, _, h => by cases h
  | _ :: _, [], _, h => by cases h
  | n :: names, v :: fs, d, h => .cons rfl (zip_at (Nat.succ.inj h))
theorem zip_at' : ∀ {names : List Str} {fs rest : List V} {d : Nat}, names.length = fs.length → Paired (fun x (f : Str × Fl) => FlAt ok kk H d x f.2) rest (names.zip (fs.map Fl.at)) → rest = fs
  | [], [], rest, _, _, h => by cases h; rfl
  | [], _ :: _, _, _, h, _ => by cases h
  | _ :: _, [], _, _, h, _ => by cases h
  | n :: names, v :: fs, [], d, h, q => by cases q
  | n :: names, v :: fs, x :: rest, d, h, q => by
    cases q with
    | cons r t =>
      have e : x = v := r
      rw [e, zip_at' (Nat.succ.inj h) t]
/-- a row's things, by its fields -/
theorem rowV_of {wi : Bool} {r : Row} {v : V} : ∀ {d : Nat}, RowOk d wi r → RowAt ok kk H d v r → ∃ rest, At ok (kk false) H v (.str (rowWord r) :: rest) ∧ Paired (fun x (f : Str × Fl) => FlAt ok kk H d x f.2) rest (flds r) := by
  intro d hk h
  have plain : ∀ {w : Str} {fs : List V}, plainOk wi w fs → At ok (kk false) H v (.str w :: fs) → ∃ rest, At ok (kk false) H v (.str w :: rest) ∧ Paired (fun x (f : Str × Fl) => FlAt ok kk H d x f.2) rest (flds (.plain w fs)) := by
    intro w fs hk h
    obtain ⟨names, e, hl, _, _⟩ := flds_plain hk 0 false
    refine ⟨fs, h, ?_⟩
    show Paired _ fs (((fieldsOf w).getD []).zip (fs.map Fl.at))
    rw [e]
    exact zip_at hl
  cases d with
  | zero =>
    cases r with
    | plain w fs => exact plain hk h
    | _ => exact h.elim
  | succ d =>
    cases r with
    | plain w fs => exact plain hk h
    | make n b =>
      obtain ⟨vb, xs, h1, h2, h3⟩ := h
      exact ⟨_, h1, .cons rfl (.cons ⟨d, rfl, xs, h2, h3⟩ .nil)⟩
    | when n b c =>
      obtain ⟨vb, xs, vc, ys, h1, h2, h3, h4, h5⟩ := h
      exact ⟨_, h1, .cons rfl (.cons ⟨d, rfl, xs, h2, h3⟩ (.cons ⟨d, rfl, ys, h4, h5⟩ .nil))⟩
    | try_ b c =>
      obtain ⟨vb, xs, vc, ys, h1, h2, h3, h4, h5⟩ := h
      exact ⟨_, h1, .cons ⟨d, rfl, xs, h2, h3⟩ (.cons ⟨d, rfl, ys, h4, h5⟩ .nil)⟩
theorem rowAt_of {wi : Bool} {r : Row} {v : V} {rest : List V} : ∀ {d : Nat}, RowOk d wi r → At ok (kk false) H v (.str (rowWord r) :: rest) → Paired (fun x (f : Str × Fl) => FlAt ok kk H d x f.2) rest (flds r) → RowAt ok kk H d v r := by
  intro d hk h q
  have plain : ∀ {w : Str} {fs : List V}, plainOk wi w fs → Paired (fun x (f : Str × Fl) => FlAt ok kk H d x f.2) rest (flds (.plain w fs)) → rest = fs := by
    intro w fs hk h
    obtain ⟨names, e, hl, _, _⟩ := flds_plain hk 0 false
    have h' : Paired (fun x (f : Str × Fl) => FlAt ok kk H d x f.2) rest (((fieldsOf w).getD []).zip (fs.map Fl.at)) := h
    rw [e] at h'
    exact zip_at' hl h'
  cases d with
  | zero =>
    cases r with
    | plain w fs => rw [plain hk q] at h; exact h
    | _ => exact hk.elim
  | succ d =>
    cases r with
    | plain w fs => rw [plain hk q] at h; exact h
    | make n b =>
      cases q with
      | cons r1 t =>
        cases t with
        | cons r2 t =>
          cases t
          obtain ⟨e, he, xs, h2, h3⟩ := r2
          have e1 := Nat.succ.inj he
          subst e1
          have e2 := r1
          cases e2
          exact ⟨_, xs, h, h2, h3⟩
    | when n b c =>
      cases q with
      | cons r1 t =>
        cases t with
        | cons r2 t =>
          cases t with
          | cons r3 t =>
            cases t
            obtain ⟨e, he, xs, h2, h3⟩ := r2
            have e1 := Nat.succ.inj he
            subst e1
            obtain ⟨e, he, ys, h4, h5⟩ := r3
            have e1 := Nat.succ.inj he
            subst e1
            have e2 := r1
            cases e2
            exact ⟨_, xs, _, ys, h, h2, h3, h4, h5⟩
    | try_ b c =>
      cases q with
      | cons r2 t =>
        cases t with
        | cons r3 t =>
          cases t
          obtain ⟨e, he, xs, h2, h3⟩ := r2
          have e1 := Nat.succ.inj he
          subst e1
          obtain ⟨e, he, ys, h4, h5⟩ := r3
          have e1 := Nat.succ.inj he
          subst e1
          exact ⟨_, xs, _, ys, h, h2, h3, h4, h5⟩
end
end Ft
set_option Elab.async false
set_option linter.all false
set_option maxRecDepth 100000
set_option maxHeartbeats 4000000
namespace Ft
open PySem L2
theorem cut1 (x : V) (rest : List V) : cutV (x :: rest) (some 1) none = rest := by
  unfold cutV
  rw [show HT.sIx (x :: rest).length 0 (some 1) = min 1 (x :: rest).length from HT.sIx_nat _ 0 1, HT.sIx_none]
  rw [show min 1 (x :: rest).length = 1 by rw [List.length_cons]; omega]
  show List.take (rest.length + 1 - 1) rest = rest
  rw [Nat.add_sub_cancel, List.take_length]
theorem not_whole1 (x : V) (rest : List V) : ¬ (HT.sIx (x :: rest).length 0 (some 1) = 0 ∧ HT.sIx (x :: rest).length (x :: rest).length none = (x :: rest).length) := fun ⟨e, _⟩ => by
  rw [show HT.sIx (x :: rest).length 0 (some 1) = min 1 (x :: rest).length from HT.sIx_nat _ 0 1, List.length_cons] at e
  omega
/-- x[1:] of a list or a tuple with a head -/
theorem rSl1 {kd : Bool} {K : PySem.W.Frag} {H : Hp} {a : Addr} {x : V} {rest : List V} {Q : VK} (h : H a = some (mkO kd (x :: rest))) (q : ∀ p H', Same H H' → H p = none → H' p = some (mkO kd rest) → Q (.ref p) H') :
    rSlL K (.ref a) (some 1) none H Q ∨ rSlT K (.ref a) (some 1) none H Q := by
  cases kd with
  | true => exact .inl ⟨a, _, rfl, SqL.of h, fun p np => q p _ (Same.new np) np (by rw [upd_same, cut1]; rfl)⟩
  | false => exact .inr ⟨a, _, rfl, SqT.of h, not_whole1 x rest, fun p np => q p _ (Same.new np) np (by rw [upd_same, cut1]; rfl)⟩
def blkOf (f : Str × Fl) : Option (List Row) := match f.2 with
  | .blk b => some b
  | .at _ => none
section
variable {P : Program} {w : World} {K : PySem.W.Frag} {mg : Str → Option Value} {base : Heap}
abbrev sBlocksOf : Stmt := topS 16
theorem scBlocksOf : FnScope ["row", "field", "part"] ["row"] (defScope sBlocksOf) := ⟨rfl, rfl, rfl, by decide +kernel, rfl, by decide +kernel, by decide +kernel⟩
def BlkAt (ok : Addr → Prop) (kk : Bool → Bool → Prop) (H : Hp) (d : Nat) (x : V) (b : List Row) : Prop := ∃ e, d = e + 1 ∧ RowsAt ok kk H e x b
def spBlocksOf : Sp := fun vs H Q _ => ∃ (v : V) (ok : Addr → Prop) (kk : Bool → Bool → Prop) (d : Nat) (wi : Bool) (r : Row), vs = [v] ∧ RowOk d wi r ∧ RowAt ok kk H d v r ∧
  ∀ H' p ys, Same H H' → H p = none → H' p = some (.lst ys) → Paired (BlkAt ok kk H d) ys (blocks r) → Q (.ref p) H'
theorem ok_BlocksOf {f dF : Addr} {fd : FuncData} {k : Nat} (F : Fun K "blocks_of" "blocks_of" sBlocksOf f fd) (B : Bl mg) (TF : FldT K w mg dF) : FnOk P w K mg base CX0 (k + 1) f fd ["row"] spBlocksOf := by
  obtain ⟨es, nn, D⟩ := TF.dict
  refine F.ok scBlocksOf (fun vs H Q E h => ?_) (fun cdv A outer s H vs Q E hr h => ?_)
  · obtain ⟨v, ok, kk, d, wi, r, rfl, _⟩ := h
    rfl
  obtain ⟨v, ok, kk, d, wi, r, rfl, hok, hat, q⟩ := h
  refine ⟨_, (pss_one (ps_ret (pe_lc (own := [("field", 1), ("part", 2)]) (g := (gTup _ 2 (gCons (gName 1) (gCons (gName 2) gNil)))) (by rfl) scBlocksOf.nd (pi_zipQ (by rfl) B.zip (pa_cons (pe_ix ix_kdict (pe_glob (v := .ref dF) (by rfl) TF.g rfl) (pe_ix ix_seq (pv 0) pe_int (fun _ _ => rfl)) (fun _ _ => rfl)) (pa_cons (pe_slice sl_seq (pv 0) (po_some pe_int) po_none) pa_nil))) (blkOk_by (own := [("field", 1), ("part", 2)]) (N := ["row", "field", "part"]) (sc := defScope sBlocksOf) (by decide +kernel)) (fun _ _ _ _ _ => (pg_tup (by rfl) (pgs_cons (pg_name (i := 1) scBlocksOf.nd rfl (by first | exact Or.inl rfl | exact Or.inr rfl)) (pgs_cons (pg_name (i := 2) scBlocksOf.nd rfl (by first | exact Or.inl rfl | exact Or.inr rfl)) pgs_nil)))) (fun _ _ _ _ _ => (pts_one (pt_cmpR op_eq (pv 1) pe_str (nomark _)))) (fun _ _ _ _ _ => (pv 2))))), ?_⟩
  have rf := rowF_of hok
  obtain ⟨rest, ⟨a, kd, rfl, oka, kka, ha⟩, hrest⟩ := rowV_of hok hat
  have hfs := fieldsOf_some rf.names
  obtain ⟨tA, hn, htA⟩ := TF.val _ hfs
  have ix : ∀ {Q' : VK}, Q' (.str (rowWord r)) H → rIx K (.ref a) (.int 0) H Q' := fun h => rIx_seq (sq_of ha) (atI_nat (j := 0) rfl) h
  refine ⟨_, rfl, ix ⟨dF, rowWord r, .ref tA, rfl, rfl, ⟨es, nn, .ref tA, D.at_, D.lit, hn, rfl⟩, ?_⟩⟩
  refine ⟨_, rfl, 1, rfl, rSl1 ha fun p G sm np hp => ?_⟩
  have lr : rest.length = (flds r).length := paired_len hrest
  have few := rf.few
  refine ⟨tA, p, false, kd, _, rest, rfl, htA G, sq_of hp, fun L nL => ?_⟩
  refine lc_it (walk_zipQ (n := (flds r).length) (by rw [List.length_map, List.length_map]; omega)) (fun i H' => Same G H' ∧ ∃ ys, H' L = some (.lst ys) ∧ Paired (BlkAt ok kk H d) ys (((flds r).take i).filterMap blkOf) ∧ ys.length ≤ i)
    ⟨Same.new nL, [], upd_same, .nil, Nat.le_refl _⟩ (fun i H' _ ⟨s4, _⟩ => ⟨htA H', sq_of (s4 _ _ hp)⟩) ?_ ?_
  · rintro i x H1 H2 hi ⟨s4, ys, hL, hys, hle⟩ ⟨T, x1, x2, rfl, nT, rfl, e1, e2⟩
    obtain ⟨ff, hff, hx2⟩ := paired_get hrest e2
    obtain rfl : x1 = .str ff.1 := by
      have e1' : (((flds r).map (·.1)).map V.str)[i]? = some x1 := e1
      rw [List.getElem?_map, List.getElem?_map, hff] at e1'
      exact (Option.some.inj e1').symm
    have fok := rf.ok ff (List.mem_of_getElem? hff)
    have s5 : Same G (upd H1 T (.tup [.str ff.1, x2])) := Same.trans s4 (Same.new nT)
    have nLT : L ≠ T := ne_of_none hL nT
    have hL2 : (upd H1 T (.tup [.str ff.1, x2])) L = some (.lst ys) := by rw [upd_ne nLT]; exact hL
    have et : (flds r).take (i + 1) = (flds r).take i ++ [ff] := by rw [List.take_add_one, hff]; rfl
    refine ⟨T, _, rfl, SqT.of upd_same, rfl, _, _, rfl, _, _, rfl, rfl, rfl, ?_⟩
    refine ⟨_, rfl, rfl, _, rfl, ite2 (fun c => ?_) (fun c => ?_)⟩
    · have ec : ff.1 = "block" := V.str.inj (of_decide_eq_true c)
      cases hfl : ff.2 with
      | «at» v =>
        rw [hfl] at fok
        rcases fok with ⟨h, _⟩ | ⟨h, _⟩
        · rw [ec] at h; exact absurd h (by decide)
        · rw [ec] at h; exact absurd h (by decide)
      | blk b =>
        rw [hfl] at hx2
        refine ⟨_, rfl, ys, hL2, small (by omega), Same.upN s5 nL, ys ++ [x2], upd_same, ?_, by simp; omega⟩
        rw [et, List.filterMap_append]
        have eb : List.filterMap blkOf [ff] = [b] := by
          rw [List.filterMap_cons, List.filterMap_nil]
          unfold blkOf
          rw [hfl]
        rw [eb]
        exact paired_app (show BlkAt ok kk H d x2 b from hx2) hys
    · have ec : ff.1 ≠ "block" := fun h => c (by rw [h]; exact decide_eq_true rfl)
      cases hfl : ff.2 with
      | blk b =>
        rw [hfl] at fok
        exact absurd fok.1 ec
      | «at» v =>
        refine ⟨s5, ys, hL2, ?_, by omega⟩
        rw [et, List.filterMap_append]
        have eb : List.filterMap blkOf [ff] = [] := by
          rw [List.filterMap_cons, List.filterMap_nil]
          unfold blkOf
          rw [hfl]
        rw [eb, List.append_nil]
        exact hys
  · rintro H1 ⟨s4, ys, hL, hys, hle⟩
    rw [List.take_length] at hys
    have eb : blocks r = (flds r).filterMap blkOf := rf.blk
    rw [← eb] at hys
    exact q _ L ys (Same.trans sm s4) (Same.free sm nL) hL hys
end
end Ft
set_option Elab.async false
set_option linter.all false
set_option maxRecDepth 100000
set_option maxHeartbeats 4000000
namespace Ft
open PySem L2
def isRef : V → Bool
  | .ref _ => true
  | _ => false
theorem isW_len {z : Str} (h : isW z = true) : z.length ≤ 8 := by
  unfold isW at h
  rw [Bool.and_eq_true, Bool.and_eq_true] at h
  exact of_decide_eq_true h.2.1
theorem atom_known {K : PySem.W.Frag} {H : Hp} {x : V} (h : isAtom x = true) (hz : ∀ z, x = .str z → z.length ≤ sizeLine) : KnownS K H isRef x := by
  refine ⟨?_, atomT x, atom_ty h, ?_⟩
  · cases x with
    | non => exact .inr (.inl rfl)
    | bl b => exact .inr (.inr (.inl ⟨b, rfl⟩))
    | int i => exact .inr (.inr (.inr (.inl ⟨i, rfl⟩)))
    | str z => exact .inl ⟨z, rfl, hz z rfl⟩
    | _ => cases h
  · rw [atom_lt h]
    cases x <;> first | rfl | cases h
theorem seq_known {K : PySem.W.Frag} {H : Hp} {ok : Addr → Prop} {kk : Bool → Prop} {v : V} {xs : List V} (h : At ok kk H v xs) : KnownS K H isRef v := by
  obtain ⟨a, kd, rfl, _, _, h⟩ := h
  refine ⟨.inr (.inr (.inr (.inr ⟨a, seqT kd, rfl, seq_ty h, by cases kd <;> decide⟩))), seqT kd, seq_ty h, seq_lt kd⟩
/-- a right row is taken -/
theorem row_taken {K : PySem.W.Frag} {H : Hp} {ok : Addr → Prop} {kk : Bool → Bool → Prop} {d : Nat} {wi : Bool} {r : Row} {rest : List V} (hok : RowOk d wi r) (hrest : Paired (fun x (f : Str × Fl) => FlAt ok kk H d x f.2) rest (flds r)) :
    (∀ x ∈ (.str (rowWord r) :: rest : List V), KnownS K H isRef x) ∧ rowB isRef wi (.str (rowWord r) :: rest) = true := by
  have rf := rowF_of hok
  have each : ∀ (i : Nat) (x : V), rest[i]? = some x → ∃ f : Str × Fl, (flds r)[i]? = some f ∧ KnownS K H isRef x ∧ fieldB isRef f.1 x = true := by
    intro i x hx
    obtain ⟨f, hf, hat⟩ := paired_get hrest hx
    have fok := rf.ok f (List.mem_of_getElem? hf)
    refine ⟨f, hf, ?_⟩
    obtain ⟨name, fl⟩ := f
    cases fl with
    | «at» v =>
      have e : x = v := hat
      subst e
      rcases fok with ⟨h1, h2⟩ | ⟨h1, i, h2, _⟩
      · have h1' : name = "word" := h1
        subst h1'
        cases x with
        | str z => exact ⟨atom_known rfl fun y e => by rw [← V.str.inj e]; exact smallE (by have := isW_len h2; omega), h2⟩
        | _ => cases h2
      · have h1' : name = "number" := h1
        subst h1'
        subst h2
        exact ⟨atom_known rfl fun y e => (nomatch e), by
          show (if ("number" : Str) = "word" then wordV (.int i) else if ("number" : Str) = "number" then intV (.int i) else isRef (.int i)) = true
          rw [if_neg (by decide), if_pos rfl]; rfl⟩
    | blk b =>
      have h1 : name = "block" := fok.1
      subst h1
      obtain ⟨e, _, ys, h2, _⟩ := hat
      refine ⟨seq_known h2, ?_⟩
      obtain ⟨a, kd, rfl, _⟩ := h2
      rfl
  refine ⟨fun x hx => ?_, ?_⟩
  · rcases List.mem_cons.mp hx with e | hx
    · rw [e]
      refine atom_known rfl fun y e => ?_
      rw [← V.str.inj e]
      have hfs := fieldsOf_some rf.names
      have : ∀ p ∈ fieldsT, p.1.length ≤ 8 := by decide +kernel
      exact smallE (by have := this _ hfs; have e2 : (rowWord r, (flds r).map (·.1)).1 = rowWord r := rfl; rw [e2] at this; omega)
    · obtain ⟨i, hi, e⟩ := List.mem_iff_getElem.mp hx
      obtain ⟨f, _, h, _⟩ := each i x (by rw [List.getElem?_eq_getElem hi, e])
      exact h
  · rw [rowB_str, rf.names]
    show (!(wi && (decide (rowWord r = "make") || decide (rowWord r = "call"))) && (decide (rest.length = ((flds r).map (·.1)).length) && _)) = true
    rw [rf.word, List.length_map, decide_eq_true (paired_len hrest)]
    rw [Bool.not_false, Bool.true_and, Bool.true_and, List.all_eq_true]
    intro p hp
    obtain ⟨i, hi, e⟩ := List.mem_iff_getElem.mp hp
    have ep : (((flds r).map (·.1)).zip rest)[i]? = some p := by rw [List.getElem?_eq_getElem hi, e]
    obtain ⟨e1, e2⟩ := List.getElem?_zip_eq_some.mp ep
    obtain ⟨f, hf, _, h⟩ := each i p.2 e2
    rw [List.getElem?_map, hf] at e1
    have e3 : f.1 = p.1 := Option.some.inj e1
    rw [← e3]
    exact h
section
variable {P : Program} {w : World} {K : PySem.W.Frag} {mg : Str → Option Value} {base : Heap}
abbrev sFirstWrong : Stmt := topS 17
theorem scFirstWrong : FnScope ["rows", "path", "is_within", "k", "row", "here", "b", "block", "found"] ["rows", "path", "is_within"] (defScope sFirstWrong) := ⟨rfl, rfl, rfl, by decide +kernel, rfl, by decide +kernel, by decide +kernel⟩
def PathAt (H : Hp) (v : V) (p : List Int) : Prop := ∃ a, v = .ref a ∧ H a = some (.tup (p.map V.int))
def spFirstWrong (d : Nat) : Sp := fun vs H Q _ => ∃ (v pv : V) (ok : Addr → Prop) (kk : Bool → Bool → Prop) (wi : Bool) (rs : List Row) (p : List Int), vs = [v, pv, .bl wi] ∧ RowsAt ok kk H d v rs ∧ rs.length ≤ 24 ∧ (∀ r ∈ rs, RowOk d wi r) ∧ PathAt H pv p ∧ p.length + 2 * d ≤ 100 ∧
  ∀ H', Same H H' → Q .non H'
theorem ok_FirstWrong {f : Addr} {fd : FuncData} {k d : Nat} {spF : Sp} (F : Fun K "first_wrong" "first_wrong" sFirstWrong f fd) (B : Bl mg) (hk : 4 ≤ k) (gIsRow : Own P w K mg base 4 "is_row" ["thing", "is_within"] (spIsRow K)) (gBlocksOf : Own P w K mg base 1 "blocks_of" ["row"] spBlocksOf)
    (gFirstWrong : Own P w K mg base k "first_wrong" ["rows", "path", "is_within"] spF) (hF : ∀ e, d = e + 1 → spF = spFirstWrong e) : FnOk P w K mg base CX0 (k + 1) f fd ["rows", "path", "is_within"] (spFirstWrong d) := by
  refine F.ok scFirstWrong (fun vs H Q E h => ?_) (fun cdv A outer s H vs Q E hr h => ?_)
  · obtain ⟨v, pv, ok, kk, wi, rs, p, rfl, _⟩ := h
    rfl
  obtain ⟨v, pv, ok, kk, wi, rs, p, rfl, ⟨xs, ⟨a, kd, rfl, oka, kka, ha⟩, hxs⟩, hlen, hok, ⟨pa, rfl, hpa⟩, hpl, q⟩ := h
  refine ⟨_, (pss_cons (ps_for PassesOwn.never rfl (pi_enumQ (by rfl) B.enumerate (pa_cons (pv 0) pa_nil)) (pg_tup (by rfl) (pgs_cons (pg_name (i := 3) scFirstWrong.nd rfl (by first | exact Or.inl rfl | exact Or.inr rfl)) (pgs_cons (pg_name (i := 4) scFirstWrong.nd rfl (by first | exact Or.inl rfl | exact Or.inr rfl)) pgs_nil))) (pss_cons (ps_set (i := 5) scFirstWrong.nd rfl (by first | exact Or.inl rfl | exact Or.inr rfl) (pe_mid (pe_op op_catA (pv 1) (pe_tup (pa_cons (pv 3) pa_nil)))))
      (pss_cons (ps_if (pt_not (pt_val (pe_own gIsRow (hr.mono (by omega)) (by rfl) (pa_cons (pv 4) (pa_cons (pv 2) pa_nil))))) (pss_one (ps_ret (pv 5))) pss_nil)
      (pss_one (ps_for PassesOwn.never rfl (pi_enumQ (by rfl) B.enumerate (pa_cons (pe_own gBlocksOf (hr.mono (by omega)) (by rfl) (pa_cons (pv 4) pa_nil)) pa_nil)) (pg_tup (by rfl) (pgs_cons (pg_name (i := 6) scFirstWrong.nd rfl (by first | exact Or.inl rfl | exact Or.inr rfl)) (pgs_cons (pg_name (i := 7) scFirstWrong.nd rfl (by first | exact Or.inl rfl | exact Or.inr rfl)) pgs_nil))) (pss_cons (ps_set (i := 8) scFirstWrong.nd rfl (by first | exact Or.inl rfl | exact Or.inr rfl) (pe_own gFirstWrong (hr.mono (by omega)) (by rfl) (pa_cons (pv 7) (pa_cons (pe_mid (pe_op op_catA (pv 5) (pe_tup (pa_cons (pv 6) pa_nil)))) (pa_cons (pe_mid (pe_or (pv 2) (pe_one (pe_cmpR op_eq (pe_ix ix_seq (pv 4) pe_int (fun _ _ => rfl)) pe_str (nomark _))))) pa_nil)))))
      (pss_one (ps_if (pt_cmpR op_notN (pv 8) pe_non (nomark _)) (pss_one (ps_ret (pv 8))) pss_nil))))))))
      (pss_one (ps_ret pe_non))), ?_⟩
  refine ⟨_, rfl, a, kd, xs, rfl, sq_of ha, ?_⟩
  refine for_it walk_enumQ (fun i σ H' => Same H H' ∧ ∃ v3 v4 v5 v6 v7 v8, σ = [some (.ref a), some (.ref pa), some (.bl wi), v3, v4, v5, v6, v7, v8])
    ⟨Same.refl H, none, none, none, none, none, none, rfl⟩ (fun i σ H' _ ⟨sm, _⟩ => sq_of (sm _ _ ha)) ?_ ?_
  · rintro i x σ H1 H2 hi ⟨sm, v3, v4, v5, v6, v7, v8, rfl⟩ ⟨T, x1, x2, rfl, nT, rfl, e1, e2⟩
    have e1' : x1 = .int (i : Nat) := (Option.some.inj e1).symm
    subst e1'
    obtain ⟨r, hr', hrow⟩ := paired_get hxs e2
    have rok := hok r (List.mem_of_getElem? hr')
    have s2 : Same H (upd H1 T (.tup [.int (i : Nat), x2])) := Same.trans sm (Same.new nT)
    refine ⟨T, _, rfl, SqT.of upd_same, rfl, _, _, rfl, _, _, rfl, rfl, ?_⟩
    generalize hG : upd H1 T _ = G at *
    -- here = path + (k,)
    refine ⟨fun v H' => ∃ b, v = .ref b ∧ H' b = some (.tup ((p ++ [(i : Int)]).map V.int)) ∧ Same G H', ?_, ?_⟩
    · refine ⟨_, rfl, _, rfl, (by show 1 ≤ sizeLine; decide), fun t1 nt1 => ?_⟩
      refine ⟨pa, t1, p.map V.int, [.int (i : Nat)], rfl, rfl, SqT.of (Same.new nt1 _ _ (s2 _ _ hpa)), SqT.of upd_same, smallE (by rw [List.length_map]; simp; omega), fun e => ?_, fun _ e => (nomatch e), fun _ _ t2 nt2 => ?_⟩
      · have ep : p = [] := List.map_eq_nil_iff.mp e
        subst ep
        exact ⟨t1, rfl, upd_same, Same.new nt1⟩
      · exact ⟨t2, rfl, by rw [upd_same, List.map_append]; rfl, Same.trans (Same.new nt1) (Same.new nt2)⟩
    rintro hv G1 ⟨hb, rfl, hhb, s3⟩
    have s4 : Same H G1 := Same.trans s2 s3
    have hrow1 : RowAt ok kk G1 d x2 r := hrow.to (Keep.fr (Fr.same s4) fun _ k => k)
    obtain ⟨rest, ⟨ra, rkd, rfl, roka, rkka, hra⟩, hrest⟩ := rowV_of rok hrow1
    have rf := rowF_of rok
    have few := rf.few
    have lr : rest.length = (flds r).length := paired_len hrest
    obtain ⟨hkn, hrb⟩ := row_taken (K := K) rok hrest
    refine ⟨_, rfl, _, rfl, .ref ra, wi, rfl, .inr ⟨ra, rkd, _, isRef, rfl, hra, by simp; omega, hkn, fun G2 s5 => ?_⟩⟩
    rw [hrb]
    refine ⟨true, rfl, iteF ?_⟩
    have s6 : Same H G2 := Same.trans s4 s5
    have hrow2 : RowAt ok kk G2 d (.ref ra) r := hrow1.to (Keep.fr (Fr.same s5) fun _ k => k)
    refine ⟨_, rfl, .ref ra, ok, kk, d, wi, r, rfl, rok, hrow2, fun G3 bl ys s7 nb hbl hys => ?_⟩
    have lb : ys.length ≤ 3 := by
      rw [paired_len hys, rf.blk]
      exact Nat.le_trans (List.length_filterMap_le _ _) few
    refine ⟨bl, true, ys, rfl, sq_of hbl, ?_⟩
    refine for_it walk_enumQ (fun j σ H' => Same G3 H' ∧ ∃ v6 v7 v8, σ = [some (.ref a), some (.ref pa), some (.bl wi), some (.int (i : Nat)), some (.ref ra), some (.ref hb), v6, v7, v8])
      ⟨Same.refl _, v6, v7, v8, rfl⟩ (fun j σ H' _ ⟨sm, _⟩ => sq_of (kd := true) (sm _ _ hbl)) ?_ ?_
    · rintro j y σ H3 H4 hj ⟨sm4, w6, w7, w8, rfl⟩ ⟨T2, y1, y2, rfl, nT2, rfl, f1, f2⟩
      have f1' : y1 = .int (j : Nat) := (Option.some.inj f1).symm
      subst f1'
      obtain ⟨b, hb', hblk⟩ := paired_get hys f2
      obtain ⟨e, rfl, hrows⟩ := hblk
      have eF := hF e rfl
      subst eF
      have s8 : Same G3 (upd H3 T2 (.tup [.int (j : Nat), y2])) := Same.trans sm4 (Same.new nT2)
      refine ⟨T2, _, rfl, SqT.of upd_same, rfl, _, _, rfl, _, _, rfl, rfl, ?_⟩
      generalize hG4 : upd H3 T2 _ = G4 at *
      have s9 : Same G1 G4 := Same.trans s5 (Same.trans s7 s8)
      have hhb4 : G4 hb = some (.tup ((p ++ [(i : Int)]).map V.int)) := s9 _ _ hhb
      have bok : b.length ≤ 24 ∧ ∀ r' ∈ b, RowOk e (wi || decide (rowWord r = "make")) r' := by
        have hm : b ∈ blocks r := List.mem_of_getElem? hb'
        rw [rf.blk] at hm
        obtain ⟨ff, hff, eff⟩ := List.mem_filterMap.mp hm
        have fok := rf.ok ff hff
        cases hfl : ff.2 with
        | «at» v => rw [hfl] at eff; cases eff
        | blk b2 =>
          rw [hfl] at eff fok
          have e2 : b2 = b := Option.some.inj eff
          subst e2
          obtain ⟨_, e', he', h8, hr8⟩ := fok
          have : e = e' := Nat.succ.inj he'
          subst this
          exact ⟨h8, hr8⟩
      refine ⟨_, rfl, fun v H' => ∃ c, v = .ref c ∧ H' c = some (.tup ((p ++ [(i : Int)] ++ [(j : Int)]).map V.int)) ∧ Same G4 H', ?_, ?_⟩
      · refine ⟨_, rfl, _, rfl, (by show 1 ≤ sizeLine; decide), fun t1 nt1 => ?_⟩
        refine ⟨hb, t1, _, [.int (j : Nat)], rfl, rfl, SqT.of (Same.new nt1 _ _ hhb4), SqT.of upd_same, smallE (by rw [List.length_map]; simp; omega), fun e => (by simp at e), fun _ e => (nomatch e), fun _ _ t2 nt2 => ?_⟩
        exact ⟨t2, rfl, by rw [upd_same, List.map_append (l₁ := p ++ [(i : Int)])]; rfl, Same.trans (Same.new nt1) (Same.new nt2)⟩
      rintro cv G5 ⟨c, rfl, hc, s10⟩
      have s11 : Same G2 G5 := Same.trans s7 (Same.trans s8 s10)
      refine ⟨fun v H' => v = .bl (wi || decide (rowWord r = "make")) ∧ G5 = H', ?_, ?_⟩
      · refine ⟨_, rfl, wi, rfl, ?_⟩
        cases wi with
        | true => exact iteT ⟨rfl, rfl⟩
        | false =>
          have hra5 := Same.trans s5 s11 _ _ hra
          refine iteF ⟨_, rfl, rIx_seq (sq_of hra5) (atI_nat (j := 0) rfl) ⟨rfl, ?_, rfl⟩⟩
          rw [Bool.false_or]
          have : (V.str (rowWord r) = V.str "make") ↔ (rowWord r = "make") := ⟨fun e => V.str.inj e, fun e => by rw [e]⟩
          rw [decide_eq_decide.mpr this]
      rintro _ _ ⟨rfl, rfl⟩
      have hrows5 : RowsAt ok kk G5 e y2 b := hrows.to (Keep.fr (Fr.same s11) fun _ k => k)
      refine ⟨y2, .ref c, ok, kk, _, b, p ++ [(i : Int)] ++ [(j : Int)], rfl, hrows5, by have := bok.1; omega, bok.2, ⟨c, rfl, hc⟩, by simp; omega, fun G6 s12 => ?_⟩
      refine ⟨_, rfl, rfl, _, rfl, iteF ⟨Same.trans s8 (Same.trans s10 s12), _, _, _, rfl⟩⟩
    · rintro σ H3 ⟨sm4, w6, w7, w8, rfl⟩
      exact ⟨Same.trans s6 (Same.trans s7 sm4), _, _, _, _, _, _, rfl⟩
  · rintro σ H1 ⟨sm, v3, v4, v5, v6, v7, v8, rfl⟩
    exact q _ sm
theorem firstWrong_ok {f : Addr} {fd : FuncData} (F : Fun K "first_wrong" "first_wrong" sFirstWrong f fd) (B : Bl mg) (m : mg "first_wrong" = some (.ref f)) (b : Binds K fd ["rows", "path", "is_within"] []) (gIsRow : Own P w K mg base 4 "is_row" ["thing", "is_within"] (spIsRow K)) (gBlocksOf : Own P w K mg base 1 "blocks_of" ["row"] spBlocksOf) :
    ∀ d : Nat, Own P w K mg base (5 + d) "first_wrong" ["rows", "path", "is_within"] (spFirstWrong d)
  | 0 => own_mk F m b (ok_FirstWrong (k := 4) F B (by omega) gIsRow gBlocksOf (own_mk F m b fn_false) (fun e h => absurd h (by omega)))
  | d + 1 => own_mk F m b (ok_FirstWrong (k := 5 + d) F B (by omega) gIsRow gBlocksOf (firstWrong_ok F B m b gIsRow gBlocksOf d) (fun e h => by
      have : d = e := by omega
      rw [this]))
end
end Ft
set_option Elab.async false
set_option linter.all false
set_option maxRecDepth 100000
set_option maxHeartbeats 4000000
namespace Ft
open PySem L2
inductive DT where
  | at (v : V)
  | sq (kd : Bool) (ts : List DT)
def DtAt (H : Hp) : Nat → V → DT → Prop
  | _, v, .at x => v = x ∧ isAtom x = true
  | m + 1, v, .sq kd ts => ∃ a xs, v = .ref a ∧ H a = some (mkO kd xs) ∧ ts.length ≤ 16000000 ∧ Paired (DtAt H m) xs ts
  | 0, _, .sq _ _ => False
theorem DtAt.to {H H' : Hp} (t : ∀ a kd xs, H a = some (mkO kd xs) → H' a = some (mkO kd xs)) : ∀ {m : Nat} {v : V} {d : DT}, DtAt H m v d → DtAt H' m v d := by
  intro m
  induction m with
  | zero =>
    intro v d h
    cases d with
    | «at» x => exact h
    | sq kd ts => exact h.elim
  | succ m ih =>
    intro v d h
    cases d with
    | «at» x => exact h
    | sq kd ts =>
      obtain ⟨a, xs, e, h1, h2, h3⟩ := h
      have go : ∀ {xs : List V} {ts : List DT}, Paired (DtAt H m) xs ts → Paired (DtAt H' m) xs ts := by
        intro xs ts h
        induction h with
        | nil => exact .nil
        | cons r _ ih2 => exact .cons (ih r) ih2
      exact ⟨a, xs, e, t _ _ _ h1, h2, go h3⟩
theorem seqT_list (kd : Bool) : kitB (seqT kd) "list" = some kd := by cases kd <;> decide +kernel
theorem seqT_tuple (kd : Bool) : kitB (seqT kd) "tuple" = some (!kd) := by cases kd <;> decide +kernel
def isIntB : V → Bool
  | .int _ => true
  | .bl _ => true
  | _ => false
def isBl : V → Bool
  | .bl _ => true
  | _ => false
theorem atom_bi {x : V} (h : isAtom x = true) : kitAnyB (atomT x) ["bool", "int"] = some (isIntB x) := by
  cases x with
  | non => decide +kernel
  | bl b => show kitAnyB "bool" ["bool", "int"] = some true; decide +kernel
  | int i => show kitAnyB "int" ["bool", "int"] = some true; decide +kernel
  | str z => show kitAnyB "str" ["bool", "int"] = some false; decide +kernel
  | _ => cases h
theorem atom_int {x : V} (h : isAtom x = true) : kitB (atomT x) "int" = some (isIntB x) := by
  cases x with
  | non => decide +kernel
  | bl b => show kitB "bool" "int" = some true; decide +kernel
  | int i => show kitB "int" "int" = some true; decide +kernel
  | str z => show kitB "str" "int" = some false; decide +kernel
  | _ => cases h
theorem atom_bool {x : V} (h : isAtom x = true) : kitB (atomT x) "bool" = some (isBl x) := by
  cases x with
  | non => decide +kernel
  | bl b => show kitB "bool" "bool" = some true; decide +kernel
  | int i => show kitB "int" "bool" = some false; decide +kernel
  | str z => show kitB "str" "bool" = some false; decide +kernel
  | _ => cases h
theorem atom_blt {x : V} (h : isAtom x = true) (hb : isIntB x = false) : kitAnyB (atomT x) ["bool", "list", "tuple"] = some false := by
  cases x with
  | non => decide +kernel
  | str z => show kitAnyB "str" ["bool", "list", "tuple"] = some false; decide +kernel
  | bl b => cases hb
  | int i => cases hb
  | _ => cases h
end Ft
set_option Elab.async false
set_option linter.all false
set_option maxRecDepth 100000
set_option maxHeartbeats 4000000
set_option pp.maxSteps 2500
namespace Ft
open PySem L2
def smallA (v : V) : Prop := isAtom v = true ∧ ∀ z : Str, v = .str z → z.length ≤ 1000
/-- an object of parts that stand where ok says -/
def AnyAt (ok : Addr → Prop) (H : Hp) : Nat → V → Prop
  | 0, v => smallA v
  | d + 1, v => smallA v ∨ (∃ a kd xs, v = .ref a ∧ ok a ∧ H a = some (mkO kd xs) ∧ xs.length ≤ 3 ∧ ∀ x ∈ xs, AnyAt ok H d x) ∨ ∃ a kvs, v = .ref a ∧ ok a ∧ H a = some (.dK kvs) ∧ kvs.length ≤ 3 ∧ (kvs.map (·.1)).Nodup ∧ ∀ kv ∈ kvs, AnyAt ok H d kv.2
theorem AnyAt.to {ok ok' : Addr → Prop} {H H' : Hp} (t : ∀ y o, ok y → H y = some o → ok' y ∧ H' y = some o) : ∀ {d : Nat} {v : V}, AnyAt ok H d v → AnyAt ok' H' d v
  | 0, _, h => h
  | d + 1, v, h => by
    rcases h with h | ⟨a, kd, xs, e, k, ha, hl, hx⟩ | ⟨a, kvs, e, k, ha, hl, hn, hx⟩
    · exact .inl h
    · exact .inr (.inl ⟨a, kd, xs, e, (t _ _ k ha).1, (t _ _ k ha).2, hl, fun x m => AnyAt.to t (hx x m)⟩)
    · exact .inr (.inr ⟨a, kvs, e, (t _ _ k ha).1, (t _ _ k ha).2, hl, hn, fun x m => AnyAt.to t (hx x m)⟩)
theorem mkO_nt {kd : Bool} {xs : List V} : ∀ ps, mkO kd xs ≠ .tbl ps := fun ps z => by cases kd <;> cases z
theorem any_small {ok : Addr → Prop} {H : Hp} {d : Nat} {v : V} (h : smallA v) : AnyAt ok H d v := by
  cases d with
  | zero => exact h
  | succ d => exact .inl h
def cAny : Nat → Int
  | 0 => 3
  | d + 1 => 3 + 3 * cAny d
theorem cAny_pos : ∀ d, 3 ≤ cAny d
  | 0 => by decide
  | d + 1 => by have := cAny_pos d; unfold cAny; omega
def spLAny (d : Nat) : Sp := fun vs H Q _ => ∃ (a : Addr) (n : Int), vs = [.ref a, .int d] ∧ Src H a n ∧ n + cAny d < 2 ^ 37 ∧
  ∀ H' v n', Fr (· ≠ a) H H' → Src H' a n' → n ≤ n' → n' ≤ n + cAny d → AnyAt (fun x => H x = none) H' d v → Q v H'
theorem putK_newA {k : Key} {v : V} {acc : List (Key × V)} (h : k ∉ acc.map (·.1)) : putK acc k v = acc ++ [(k, v)] := by
  unfold putK
  rw [if_neg fun e => h ?_]
  obtain ⟨kv, m, e⟩ := List.any_eq_true.mp e
  exact List.mem_map.mpr ⟨kv, m, of_decide_eq_true e⟩
theorem mergeK_ndA : ∀ {more acc : List (Key × V)}, ((acc ++ more).map (·.1)).Nodup → mergeK acc more = acc ++ more
  | [], acc, _ => by rw [List.append_nil]; rfl
  | kv :: more, acc, h => by
    show mergeK (putK acc kv.1 kv.2) more = _
    have hk : kv.1 ∉ acc.map (·.1) := by
      rw [List.map_append, List.nodup_append] at h
      exact fun z => h.2.2 _ z _ (by simp) rfl
    rw [putK_newA hk, mergeK_ndA (by rw [List.append_assoc]; exact h), List.append_assoc]
    rfl
section
variable {P : Program} {w : World} {K : PySem.W.Frag} {mg : Str → Option Value} {base : Heap}
abbrev sLAny : Stmt := topS 43
theorem scLAny : FnScope ["_law_source_here", "_law_deep", "_law_way", "_law_some", "_law_k", "_law_one"] ["_law_source_here", "_law_deep"] (defScope sLAny) := ⟨rfl, rfl, rfl, by decide +kernel, rfl, by decide +kernel, by decide +kernel⟩
theorem ok_LAny {f : Addr} {fd : FuncData} {k d : Nat} {spF : Sp} (F : Fun K "_law_any" "_law_any" sLAny f fd) (B : Bl mg) (hk : 2 ≤ k) (gLDraw : Own P w K mg base 1 "_law_draw" ["_law_source_here", "_law_many"] spLDraw) (gLPick : Own P w K mg base 2 "_law_pick" ["_law_source_here", "_law_some"] spLPick)
    (gLAny : Own P w K mg base k "_law_any" ["_law_source_here", "_law_deep"] spF) (hF : ∀ e, d = e + 1 → spF = spLAny e) : FnOk P w K mg base CX0 (k + 1) f fd ["_law_source_here", "_law_deep"] (spLAny d) := by
  refine F.ok scLAny (fun vs H Q E h => ?_) (fun cdv A outer s H vs Q E hr h => ?_)
  · obtain ⟨a, n, rfl, _⟩ := h
    rfl
  obtain ⟨a, n, rfl, hs, hn, q⟩ := h
  refine ⟨_, (pss_cut (ps_set (i := 2) scLAny.nd rfl (by first | exact Or.inl rfl | exact Or.inr rfl) (pe_own gLDraw (hr.mono (by omega)) (by rfl) (pa_cons (pv 0) (pa_cons (pe_ifExp (pt_cmpR op_gt (pv 1) pe_int (nomark _)) pe_int pe_int) pa_nil))))
      (pss_cons (ps_if (pt_cmpR op_lt (pv 2) pe_int (nomark _)) (pss_one (ps_ret (pe_ix ix_list (pe_lst (pa_cons (pe_op op_sub (pe_own gLDraw (hr.mono (by omega)) (by rfl) (pa_cons (pv 0) (pa_cons (pe_op op_pow pe_int pe_int) pa_nil))) pe_int) (pa_cons pe_bl (pa_cons pe_bl (pa_cons pe_non (pa_cons (pe_own gLPick (hr.mono (by omega)) (by rfl) (pa_cons (pv 0) (pa_cons (pe_lst (pa_cons pe_str (pa_cons pe_str (pa_cons pe_str (pa_cons pe_str pa_nil))))) pa_nil))) pa_nil)))))) (pv 2) (fun _ _ => rfl)))) pss_nil)
      (pss_cons (ps_setLc (i := 3) (own := [("_law_k", 4)]) (g := (gName 4)) (tt := tYes) (by rfl) scLAny.nd rfl rfl (sw_true rfl rfl rfl (by decide +kernel)) (pi_range1 (by rfl) B.range (pa_cons (pe_own gLDraw (hr.mono (by omega)) (by rfl) (pa_cons (pv 0) (pa_cons pe_int pa_nil))) pa_nil)) (blkOk_by (own := [("_law_k", 4)]) (N := ["_law_source_here", "_law_deep", "_law_way", "_law_some", "_law_k", "_law_one"]) (sc := defScope sLAny) (by decide +kernel)) (fun _ _ _ _ _ => (pg_name (i := 4) scLAny.nd rfl (by first | exact Or.inl rfl | exact Or.inr rfl))) (fun _ _ _ _ _ => pts_nil) (fun _ _ _ _ _ => (pe_own gLAny (hr.mono (by omega)) (by rfl) (pa_cons (pv 0) (pa_cons (pe_op op_sub (pv 1) pe_int) pa_nil)))))
      (pss_one (ps_ret (pe_ix ix_list (pe_lst (pa_cons (pe_callTy call_tuple_of (by rfl) B.tuple (by decide +kernel) (pa_cons (pv 3) pa_nil)) (pa_cons (pv 3) (pa_cons (pe_callTy (call_dictP rfl) (by rfl) B.dict (by decide +kernel) (pa_cons (pe_lc (own := [("_law_k", 4), ("_law_one", 5)]) (g := (gTup _ 2 (gCons (gName 4) (gCons (gName 5) gNil)))) (tt := tYes) (by rfl) scLAny.nd (pi_enumQ (by rfl) B.enumerate (pa_cons (pv 3) pa_nil)) (blkOk_by (own := [("_law_k", 4), ("_law_one", 5)]) (N := ["_law_source_here", "_law_deep", "_law_way", "_law_some", "_law_k", "_law_one"]) (sc := defScope sLAny) (by decide +kernel)) (fun _ _ _ _ _ => (pg_tup (by rfl) (pgs_cons (pg_name (i := 4) scLAny.nd rfl (by first | exact Or.inl rfl | exact Or.inr rfl)) (pgs_cons (pg_name (i := 5) scLAny.nd rfl (by first | exact Or.inl rfl | exact Or.inr rfl)) pgs_nil)))) (fun _ _ _ _ _ => pts_nil) (fun _ _ _ _ _ => (pe_tup (pa_cons (pe_callTy call_str_int (by rfl) B.str (by decide +kernel) (pa_cons (pv 4) pa_nil)) (pa_cons (pv 5) pa_nil))))) pa_nil)) pa_nil)))) (pe_op op_sub (pv 2) pe_int) (fun _ _ => rfl))))))), ?_⟩
  have cd := cAny_pos d
  refine ⟨fun σ H' => ∃ w : Int, σ = [some (.ref a), some (.int d), some (.int w), none, none, none] ∧ Fr (· ≠ a) H H' ∧ Src H' a (n + 1) ∧ 0 ≤ w ∧ (w < 5 ∨ w < 8 ∧ ∃ e, d = e + 1), ?_, ?_⟩
  · refine ⟨_, rfl, _, rfl, d, 0, rfl, rfl, _, rfl, ite2 (fun c => ?_) (fun c => ?_)⟩
    · have c' : (0 : Int) < d := of_decide_eq_true c
      exact ⟨a, 8, n, rfl, hs, by omega, by decide, by decide, fun H1 j f1 s1 j0 j1 => ⟨j, rfl, f1, s1, j0, .inr ⟨j1, d - 1, by omega⟩⟩⟩
    · exact ⟨a, 5, n, rfl, hs, by omega, by decide, by decide, fun H1 j f1 s1 j0 j1 => ⟨j, rfl, f1, s1, j0, .inl j1⟩⟩
  rintro σ H1 ⟨w, rfl, f1, s1, w0, w1⟩
  have aH : H a ≠ none := by
    obtain ⟨o, e⟩ := hs.is
    rw [e]; exact fun z => nomatch z
  refine ⟨_, rfl, w, 5, rfl, rfl, _, rfl, ite2 (fun c => ?_) (fun c => ?_)⟩
  · have c' : w < 5 := of_decide_eq_true c
    refine ⟨_, rfl, 10, 9, rfl, rfl, ⟨by decide, by decide, by decide⟩, a, _, n + 1, rfl, s1, by omega, by decide, by decide, fun H2 j f2 s2 j0 j1 => ?_⟩
    refine ⟨j, 5, rfl, rfl, _, rfl, (by show 4 ≤ sizeLine; decide), fun p np => ?_⟩
    have pa : p ≠ a := fun z => by
      obtain ⟨o, e⟩ := s2.is
      rw [← z, np] at e; cases e
    refine ⟨a, p, _, n + 1 + 1, rfl, s2.new np, by omega, pa, upd_same, (fun z => nomatch z), (by show 4 < 1000000; decide), fun H3 x f3 s3 hx => ?_⟩
    refine ⟨(by show 5 ≤ sizeLine; decide), fun l nl => ?_⟩
    obtain ⟨v, hv, hm⟩ := getD_mem (xs := [.int (j - 5), .bl true, .bl false, .non, x]) w0 (by show w < 5; exact c')
    refine ⟨_, rfl, l, _, w, v, rfl, rfl, SqL.of upd_same, hv, ?_⟩
    refine q _ v (n + 3) ((f1.trans f2).trans ((Fr.new np).trans (f3.trans (Fr.new nl)))) ((show n + 3 = n + 1 + 1 + 1 by omega) ▸ s3.new nl) (by omega) (by omega) (any_small ?_)
    have sx : smallA x := by
      simp only [List.mem_cons, List.mem_nil_iff, or_false] at hx
      rcases hx with e | e | e | e <;> subst e <;> exact ⟨rfl, fun z e => by cases e; decide +kernel⟩
    simp only [List.mem_cons, List.mem_nil_iff, or_false] at hm
    rcases hm with e | e | e | e | e
    · subst e; exact ⟨rfl, fun z e => nomatch e⟩
    · subst e; exact ⟨rfl, fun z e => nomatch e⟩
    · subst e; exact ⟨rfl, fun z e => nomatch e⟩
    · subst e; exact ⟨rfl, fun z e => nomatch e⟩
    · subst e; exact sx
  have c' : ¬ w < 5 := fun z => c (decide_eq_true z)
  obtain ⟨w8, e, rfl⟩ : w < 8 ∧ ∃ e, d = e + 1 := w1.resolve_left c'
  have eF := hF e rfl
  subst eF
  have ce := cAny_pos e
  have cE : cAny (e + 1) = 3 + 3 * cAny e := rfl
  refine ⟨_, rfl, a, 4, n + 1, rfl, s1, by omega, by decide, by decide, fun H2 m f2 s2 m0 m1 => ?_⟩
  refine ⟨m, rfl, by omega, by omega, fun L nL => ?_⟩
  have f12 := f1.trans f2
  have frn : ∀ {H' : Hp} {n' : Int} {l : Addr}, Fr (· ≠ a) H H' → Src H' a n' → H' l = none → H l = none ∧ l ≠ a := fun {H' n' l} f s h => by
    obtain ⟨o, e⟩ := s.is
    exact ⟨f.freeD e h, fun z => by rw [z, e] at h; cases h⟩
  obtain ⟨nLH, La⟩ := frn f12 s2 nL
  refine lc_it (walk_range (lo := 0) (n := m.toNat)) (fun i H' => Fr (· ≠ a) H H' ∧ ∃ n' ys, Src H' a n' ∧ n + 2 ≤ n' ∧ n' ≤ n + 2 + i * cAny e ∧ H' L = some (.lst ys) ∧ ys.length = i ∧ ∀ y ∈ ys, AnyAt (fun x => H x = none ∧ x ≠ L) H' e y)
    ⟨f12.trans (Fr.new nL), n + 1 + 1, [], s2.new nL, by omega, by omega, upd_same, rfl, fun y h => nomatch h⟩ (fun _ _ _ _ => trivial) ?_ ?_
  · rintro i x H3 H4 hi ⟨f3, n', ys, s3, n0, n1, hL, ly, hy⟩ ⟨rfl, rfl⟩
    have i2 : (i : Int) ≤ 2 := by omega
    have ic : (i : Int) * cAny e ≤ 2 * cAny e := Int.mul_le_mul_of_nonneg_right i2 (by omega)
    refine ⟨rfl, _, rfl, _, rfl, _, 1, rfl, rfl, a, n', ?_, s3, by omega, fun H5 v n5 f5 s5 l5 u5 hv => ?_⟩
    · show [V.ref a, V.int (((e + 1 : Nat) : Int) - 1)] = [.ref a, .int e]
      rw [show ((e + 1 : Nat) : Int) - 1 = e by omega]
    have hL5 := f5 _ _ La hL
    refine ⟨ys, hL5, small (by omega), (f3.trans f5).upN nLH, n5, ys ++ [v], s5.ne La.symm, by omega, ?_, upd_same, by rw [List.length_append, ly]; rfl, fun y my => ?_⟩
    · have ei : (((i + 1 : Nat) : Int)) * cAny e = i * cAny e + cAny e := by
        rw [show (((i + 1 : Nat) : Int)) = (i : Int) + 1 by omega, Int.add_mul, Int.one_mul]
      omega
    rcases List.mem_append.mp my with my | my
    · refine (hy y my).to fun z o k e => ⟨k, ?_⟩
      have za : z ≠ a := fun e2 => aH (by rw [← e2]; exact k.1)
      rw [upd_ne k.2]; exact f5 _ _ za e
    · rw [List.mem_singleton.mp my]
      refine hv.to fun z o k e => ?_
      have zL : z ≠ L := fun e2 => by rw [e2, hL] at k; cases k
      exact ⟨⟨(frn f3 s3 k).1, zL⟩, by rw [upd_ne zL]; exact e⟩
  · rintro H3 ⟨f3, n', ys, s3, n0, n1, hL, ly, hy⟩
    have ly3 : ys.length ≤ 3 := by omega
    have mb : (m.toNat : Int) * cAny e ≤ 3 * cAny e := Int.mul_le_mul_of_nonneg_right (by omega) (by omega)
    -- tuple(some)
    refine ⟨_, rfl, L, ys, rfl, .inl ⟨SqL.of hL, fun T nT => ?_⟩⟩
    obtain ⟨nTH, Ta⟩ := frn f3 s3 nT
    have sT : Same H3 (upd H3 T (.tup ys)) := Same.new nT
    have hT : (upd H3 T (.tup ys)) T = some (.tup ys) := upd_same
    generalize hG : upd H3 T _ = G at *
    have hLG := sT _ _ hL
    refine ⟨_, rfl, _, rfl, L, true, ys, rfl, sq_of (kd := true) hLG, fun D nD => ?_⟩
    refine lc_it walk_enumQ (fun i H' => Same G H' ∧ ∃ ps kvs, H' D = some (.lst (ps.map V.ref)) ∧ Paired (fun p (kv : Key × V) => p ≠ D ∧ H' p = some (.tup [kV kv.1, kv.2])) ps kvs ∧ kvs.map (·.2) = ys.take i ∧ kvs.map (·.1) = (List.range i).map fun (k : Nat) => (Sum.inr (Str.ofString (toString (k : Int))) : Key))
      ⟨Same.new nD, [], [], upd_same, .nil, rfl, rfl⟩ (fun i H' _ ⟨sm, _⟩ => sq_of (kd := true) (sm _ _ hLG)) ?_ ?_
    · rintro i x H4 H5 hi ⟨s4, ps, kvs, hD, hp, h2, h1⟩ ⟨T2, y1, y2, rfl, nT2, rfl, g1, g2⟩
      have e2 : ys[i]? = some y2 := g2
      have e1 : y1 = .int (i : Nat) := (Option.some.inj g1).symm
      subst e1
      have lp : ps.length = i := by
        rw [paired_len hp, ← List.length_map (f := fun x : Key × V => x.1), h1, List.length_map, List.length_range]
      have D2 : D ≠ T2 := ne_of_none hD nT2
      have s5 : Same H4 (upd H4 T2 (.tup [.int (i : Nat), y2])) := Same.new nT2
      have hT2 : (upd H4 T2 (.tup [.int (i : Nat), y2])) T2 = some (.tup [.int (i : Nat), y2]) := upd_same
      generalize upd H4 T2 _ = G4 at *
      refine ⟨T2, _, rfl, SqT.of hT2, rfl, _, _, rfl, _, _, rfl, rfl, rfl, ?_⟩
      refine ⟨_, rfl, (i : Nat), rfl, ?_, _, rfl, (by show 2 ≤ sizeLine; decide), fun U nU => ?_⟩
      · have i3 : i < 3 := by omega
        have all : ∀ k ∈ List.range 3, ((k : Int)).natAbs.log2 < 1920 := by decide +kernel
        exact all _ (List.mem_range.mpr i3)
      have hD4 := s5 _ _ hD
      have DU : D ≠ U := ne_of_none hD4 nU
      refine ⟨_, Same.new nU _ _ hD4, by rw [List.length_map, lp]; exact small (by omega), Same.upN (Same.trans s4 (Same.trans s5 (Same.new nU))) nD, ps ++ [U], kvs ++ [(Sum.inr (Str.ofString (toString ((i : Nat) : Int))), y2)], ?_, ?_, ?_, ?_⟩
      · rw [upd_same, List.map_append]; rfl
      · exact paired_app ⟨DU.symm, by rw [upd_ne DU.symm]; exact upd_same⟩ (paired_imp hp fun p kv r => ⟨r.1, by rw [upd_ne r.1]; exact Same.new nU _ _ (s5 _ _ r.2)⟩)
      · rw [List.map_append, h2, List.take_add_one, e2]; rfl
      · rw [List.map_append, h1, List.range_succ, List.map_append]; rfl
    · rintro H4 ⟨s4, ps, kvs, hD, hp, h2, h1⟩
      rw [List.take_length] at h2
      refine ⟨D, ps, kvs, rfl, SqL.of hD, paired_imp hp fun _ _ q => SqT.of q.2, fun M nM => ?_⟩
      have nd : (kvs.map (·.1)).Nodup := by
        have all : ∀ k ∈ List.range 4, ((List.range k).map fun (k : Nat) => (Sum.inr (Str.ofString (toString (k : Int))) : Key)).Nodup := by decide +kernel
        rw [h1]
        exact all _ (List.mem_range.mpr (by omega))
      have em : mergeK [] kvs = kvs := mergeK_ndA (by exact nd)
      rw [em]
      have sM : Same H4 (upd H4 M (.dK kvs)) := Same.new nM
      have hM : (upd H4 M (.dK kvs)) M = some (.dK kvs) := upd_same
      generalize upd H4 M _ = H5 at *
      refine ⟨(by show 3 ≤ sizeLine; decide), fun Z nZ => ?_⟩
      have sZ : Same H5 (upd H5 Z (.lst [.ref T, .ref L, .ref M])) := Same.new nZ
      have hZ : (upd H5 Z (.lst [.ref T, .ref L, .ref M])) Z = some (.lst [.ref T, .ref L, .ref M]) := upd_same
      generalize upd H5 Z _ = H6 at *
      have s36 : Same H3 H6 := Same.trans sT (Same.trans s4 (Same.trans sM sZ))
      have s36' : Same G H6 := Same.trans s4 (Same.trans sM sZ)
      have sr6 : Src H6 a n' := s3.fr (Fr.same (ok := fun _ => True) s36) trivial
      have fin : ∀ v, AnyAt (fun x => H x = none) H6 (e + 1) v → Q v H6 := fun v hv => q _ v n' (f3.trans (Fr.same s36)) sr6 (by omega) (by omega) hv
      have hys : ∀ y ∈ ys, AnyAt (fun x => H x = none) H6 e y := fun y my => (hy y my).to fun z o k e => ⟨k.1, s36 _ _ e⟩
      obtain ⟨nMH, _⟩ := frn ((f3.trans (Fr.same sT)).trans (Fr.same s4)) (s3.fr (Fr.same (ok := fun _ => True) (Same.trans sT s4)) trivial) nM
      have gT : AnyAt (fun x => H x = none) H6 (e + 1) (.ref T) := .inr (.inl ⟨T, false, ys, rfl, nTH, s36' _ _ hT, ly3, hys⟩)
      have gL : AnyAt (fun x => H x = none) H6 (e + 1) (.ref L) := .inr (.inl ⟨L, true, ys, rfl, nLH, s36 _ _ hL, ly3, hys⟩)
      have lk : kvs.length = ys.length := by rw [← List.length_map (f := fun x : Key × V => x.2), h2]
      have gM : AnyAt (fun x => H x = none) H6 (e + 1) (.ref M) := .inr (.inr ⟨M, kvs, rfl, nMH, sZ _ _ hM, by omega, nd, fun kv mk => hys _ (by rw [← h2]; exact List.mem_map.mpr ⟨kv, mk, rfl⟩)⟩)
      obtain ⟨v, hv, hm⟩ := getD_mem (xs := [.ref T, .ref L, .ref M]) (k := w - 5) (by omega) (by show w - 5 < 3; omega)
      refine ⟨_, rfl, w, 5, rfl, rfl, Z, _, w - 5, v, rfl, rfl, SqL.of hZ, hv, fin v ?_⟩
      simp only [List.mem_cons, List.mem_nil_iff, or_false] at hm
      rcases hm with e | e | e <;> subst e <;> assumption
theorem lany_ok {f : Addr} {fd : FuncData} (F : Fun K "_law_any" "_law_any" sLAny f fd) (B : Bl mg) (m : mg "_law_any" = some (.ref f)) (b : Binds K fd ["_law_source_here", "_law_deep"] []) (gLDraw : Own P w K mg base 1 "_law_draw" ["_law_source_here", "_law_many"] spLDraw) (gLPick : Own P w K mg base 2 "_law_pick" ["_law_source_here", "_law_some"] spLPick) : ∀ d : Nat, Own P w K mg base (3 + d) "_law_any" ["_law_source_here", "_law_deep"] (spLAny d)
  | 0 => own_mk F m b (ok_LAny (k := 2) F B (by decide) gLDraw gLPick (own_mk F m b fn_false) (fun e h => absurd h (by omega)))
  | d + 1 => own_mk F m b (ok_LAny (k := 3 + d) F B (by omega) gLDraw gLPick (lany_ok F B m b gLDraw gLPick d) (fun e h => by
      have : d = e := by omega
      rw [this]))
end
end Ft
set_option Elab.async false
set_option linter.all false
set_option maxRecDepth 100000
set_option maxHeartbeats 1000000
namespace Ft
open PySem L2
inductive Th where
  | at (v : V)
  | dc
  | sq (ts : List Th)
def smallT (v : V) : Bool := isAtom v && match v with
  | .str z => decide (z.length ≤ 1000)
  | _ => true
def ThAt (ok : Addr → Prop) (H : Hp) : Nat → V → Th → Prop
  | _, v, .at x => v = x ∧ smallT x = true
  | _, v, .dc => ∃ a kvs, v = .ref a ∧ ok a ∧ H a = some (.dK kvs)
  | m + 1, v, .sq ts => ∃ a kd xs, v = .ref a ∧ ok a ∧ H a = some (mkO kd xs) ∧ ts.length ≤ 100 ∧ Paired (ThAt ok H m) xs ts
  | 0, _, .sq _ => False
theorem thAt_at {ok : Addr → Prop} {H : Hp} {m : Nat} {v x : V} (h : ThAt ok H m v (.at x)) : v = x ∧ smallT x = true := by cases m <;> exact h
theorem thAt_at' {ok : Addr → Prop} {H : Hp} {m : Nat} {x : V} (h : smallT x = true) : ThAt ok H m x (.at x) := by cases m <;> exact ⟨rfl, h⟩
theorem thAt_dc {ok : Addr → Prop} {H : Hp} {m : Nat} {v : V} (h : ThAt ok H m v .dc) : ∃ a kvs, v = .ref a ∧ ok a ∧ H a = some (.dK kvs) := by cases m <;> exact h
theorem thAt_dc' {ok : Addr → Prop} {H : Hp} {m : Nat} {a : Addr} {kvs : List (Key × V)} (k : ok a) (h : H a = some (.dK kvs)) : ThAt ok H m (.ref a) .dc := by cases m <;> exact ⟨a, kvs, rfl, k, h⟩
theorem thAt_sq {ok : Addr → Prop} {H : Hp} {m : Nat} {v : V} {ts : List Th} (h : ThAt ok H m v (.sq ts)) : ∃ m' a kd xs, m = m' + 1 ∧ v = .ref a ∧ ok a ∧ H a = some (mkO kd xs) ∧ ts.length ≤ 100 ∧ Paired (ThAt ok H m') xs ts := by
  cases m with
  | zero => exact h.elim
  | succ m =>
    obtain ⟨a, kd, xs, e, k, ha, hl, hp⟩ := h
    exact ⟨m, a, kd, xs, rfl, e, k, ha, hl, hp⟩
/-- what stands at good places is kept -/
def KeepT (ok ok' : Addr → Prop) (H H' : Hp) : Prop := ∀ b o, ok b → (∀ ps, o ≠ .tbl ps) → H b = some o → ok' b ∧ H' b = some o
theorem KeepT.fr {ok ok' : Addr → Prop} {H H' : Hp} (f : Fr ok H H') (h : ∀ x, ok x → ok' x) : KeepT ok ok' H H' := fun b o k _ e => ⟨h b k, f b o k e⟩
theorem KeepT.same {ok : Addr → Prop} {H H' : Hp} (s : Same H H') : KeepT ok ok H H' := fun b o k _ e => ⟨k, s b o e⟩
theorem KeepT.mono {o1 o2 : Addr → Prop} {H : Hp} (h : ∀ x, o1 x → H x ≠ none → o2 x) : KeepT o1 o2 H H := fun b o k _ e => ⟨h b k (by rw [e]; exact fun z => nomatch z), e⟩
theorem KeepT.trans {o1 o2 o3 : Addr → Prop} {H1 H2 H3 : Hp} (a : KeepT o1 o2 H1 H2) (b : KeepT o2 o3 H2 H3) : KeepT o1 o3 H1 H3 := fun x o k n e => by
  obtain ⟨k2, e2⟩ := a x o k n e
  exact b x o k2 n e2
theorem ThAt.to {ok ok' : Addr → Prop} {H H' : Hp} (t : KeepT ok ok' H H') : ∀ {m : Nat} {v : V} {x : Th}, ThAt ok H m v x → ThAt ok' H' m v x := by
  intro m
  induction m with
  | zero =>
    intro v x h
    cases x with
    | «at» x => exact h
    | dc =>
      obtain ⟨a, kvs, e, k, ha⟩ := h
      obtain ⟨k', e'⟩ := t a (.dK kvs) k (fun ps z => nomatch z) ha
      exact ⟨a, kvs, e, k', e'⟩
    | sq ts => exact h.elim
  | succ m ih =>
    intro v x h
    cases x with
    | «at» x => exact h
    | dc =>
      obtain ⟨a, kvs, e, k, ha⟩ := h
      obtain ⟨k', e'⟩ := t a (.dK kvs) k (fun ps z => nomatch z) ha
      exact ⟨a, kvs, e, k', e'⟩
    | sq ts =>
      obtain ⟨a, kd, xs, e, k, ha, hl, hp⟩ := h
      obtain ⟨k', e'⟩ := t _ _ k mkO_nt ha
      exact ⟨a, kd, xs, e, k', e', hl, paired_imp hp fun _ _ q => ih q⟩
theorem ThAt.up {ok : Addr → Prop} {H : Hp} : ∀ {m : Nat} {v : V} {x : Th}, ThAt ok H m v x → ThAt ok H (m + 1) v x := by
  intro m
  induction m with
  | zero =>
    intro v x h
    cases x with
    | «at» x => exact h
    | dc => exact h
    | sq ts => exact h.elim
  | succ m ih =>
    intro v x h
    cases x with
    | «at» x => exact h
    | dc => exact h
    | sq ts =>
      obtain ⟨a, kd, xs, e, k, ha, hl, hp⟩ := h
      exact ⟨a, kd, xs, e, k, ha, hl, paired_imp hp fun _ _ q => ih q⟩
theorem ThAt.upTo {ok : Addr → Prop} {H : Hp} {m m' : Nat} {v : V} {x : Th} (h : ThAt ok H m v x) (hm : m ≤ m') : ThAt ok H m' v x := by
  obtain ⟨k, rfl⟩ := Nat.le.dest hm
  clear hm
  induction k with
  | zero => exact h
  | succ k ih => exact ih.up
def isSq : Th → Bool
  | .sq _ => true
  | _ => false
def wordT : Th → Bool
  | .at v => wordV v
  | _ => false
def intT : Th → Bool
  | .at v => intV v
  | _ => false
def fieldT (f : Str) (t : Th) : Bool := if f = "word" then wordT t else if f = "number" then intT t else isSq t
def rowT (wi : Bool) : Th → Bool
  | .sq (.at (.str z) :: rest) => match fieldsOf z with
    | some fs => !(wi && (decide (z = "make") || decide (z = "call"))) && (decide (rest.length = fs.length) && ((fs.zip rest).all fun p => fieldT p.1 p.2))
    | none => false
  | _ => false
def subs : Th → List Th
  | .sq ts => ts
  | _ => []
def wordOf : Th → Str
  | .sq (.at (.str z) :: _) => z
  | _ => Str.empty
def restOf : Th → List Th
  | .sq (_ :: r) => r
  | _ => []
/-- the blocks of a row -/
def blksT (t : Th) : List (List Th) := (((fieldsOf (wordOf t)).getD []).zip (restOf t)).filterMap fun p : Str × Th => if p.1 = ("block" : Str) then some (subs p.2) else none
/-- the path of the first thing that is no row -/
def firstT : Nat → Bool → List Int → Th × Nat → Option (List Int)
  | 0, wi, p, q => if rowT wi q.1 = true then none else some (p ++ [(q.2 : Int)])
  | d + 1, wi, p, q => if rowT wi q.1 = true then (blksT q.1).zipIdx.findSome? fun b => b.1.zipIdx.findSome? (firstT d (wi || decide (wordOf q.1 = "make")) (p ++ [(q.2 : Int), (b.2 : Int)])) else some (p ++ [(q.2 : Int)])
def firstLT (d : Nat) (wi : Bool) (p : List Int) (ts : List Th) : Option (List Int) := ts.zipIdx.findSome? (firstT d wi p)
def firstBT (d : Nat) (wi : Bool) (p : List Int) (i : Nat) (q : List Th × Nat) : Option (List Int) := match d with
  | 0 => none
  | e + 1 => firstLT e wi (p ++ [(i : Int), (q.2 : Int)]) q.1
theorem firstT_eq (d : Nat) (wi : Bool) (p : List Int) (t : Th) (i : Nat) : firstT d wi p (t, i) = if rowT wi t = true then (blksT t).zipIdx.findSome? (firstBT d (wi || decide (wordOf t = "make")) p i) else some (p ++ [(i : Int)]) := by
  cases d with
  | zero =>
    show (if rowT wi t = true then none else _) = _
    congr 1
    symm
    rw [List.findSome?_eq_none_iff]
    intro x _
    rfl
  | succ d => rfl
theorem rowT_inv {wi : Bool} {t : Th} (h : rowT wi t = true) : ∃ z rest fs, t = .sq (.at (.str z) :: rest) ∧ fieldsOf z = some fs ∧ rest.length = fs.length ∧ (∀ p ∈ fs.zip rest, fieldT p.1 p.2 = true) ∧ (wi && (decide (z = "make") || decide (z = "call"))) = false := by
  match t, h with
  | .sq (.at (.str z) :: rest), h =>
    have h : (match fieldsOf z with
      | some fs => !(wi && (decide (z = "make") || decide (z = "call"))) && (decide (rest.length = fs.length) && ((fs.zip rest).all fun p => fieldT p.1 p.2))
      | none => false) = true := h
    cases hf : fieldsOf z with
    | none => rw [hf] at h; cases h
    | some fs =>
      rw [hf] at h
      have h : (!(wi && (decide (z = "make") || decide (z = "call"))) && (decide (rest.length = fs.length) && ((fs.zip rest).all fun p => fieldT p.1 p.2))) = true := h
      rw [Bool.and_eq_true, Bool.and_eq_true] at h
      refine ⟨z, rest, fs, rfl, hf, of_decide_eq_true h.2.1, fun p hp => List.all_eq_true.mp h.2.2 p hp, ?_⟩
      have := h.1
      revert this
      cases (wi && (decide (z = "make") || decide (z = "call"))) <;> simp
theorem rowT_weak {wi : Bool} {t : Th} (h : rowT wi t = true) : rowT false t = true := by
  obtain ⟨z, rest, fs, rfl, hf, hl, hp, _⟩ := rowT_inv h
  show (match fieldsOf z with
      | some fs => !(false && (decide (z = "make") || decide (z = "call"))) && (decide (rest.length = fs.length) && ((fs.zip rest).all fun p => fieldT p.1 p.2))
      | none => false) = true
  rw [hf]
  show (!(false && _) && (decide (rest.length = fs.length) && ((fs.zip rest).all fun p => fieldT p.1 p.2))) = true
  rw [Bool.false_and, decide_eq_true hl, List.all_eq_true.mpr hp]
  rfl
def sqV (H : Hp) : V → Bool
  | .ref a => match H a with
    | some (.lst _) => true
    | some (.tup _) => true
    | _ => false
  | _ => false
theorem sqV_atom {H : Hp} {x : V} (h : isAtom x = true) : sqV H x = false := by cases x <;> first | rfl | cases h
theorem sqV_seq {H : Hp} {a : Addr} {kd : Bool} {xs : List V} (h : H a = some (mkO kd xs)) : sqV H (.ref a) = true := by
  simp only [sqV]
  rw [h]
  cases kd <;> rfl
theorem sqV_dict {H : Hp} {a : Addr} {kvs : List (Key × V)} (h : H a = some (.dK kvs)) : sqV H (.ref a) = false := by
  simp only [sqV]
  rw [h]
theorem smallT_inv {x : V} (h : smallT x = true) : isAtom x = true ∧ ∀ z, x = .str z → z.length ≤ 1000 := by
  unfold smallT at h
  rw [Bool.and_eq_true] at h
  refine ⟨h.1, fun z e => ?_⟩
  subst e
  exact of_decide_eq_true h.2
theorem th_kn {K : PySem.W.Frag} {ok : Addr → Prop} {H : Hp} {m : Nat} {v : V} {t : Th} (h : ThAt ok H m v t) : KnownS K H (sqV H) v ∧ sqV H v = isSq t ∧ wordV v = wordT t ∧ intV v = intT t := by
  cases t with
  | «at» x =>
    obtain ⟨rfl, hx⟩ := thAt_at h
    obtain ⟨h1, h2⟩ := smallT_inv hx
    refine ⟨⟨?_, _, atom_ty h1, ?_⟩, sqV_atom h1, rfl, rfl⟩
    · cases v with
      | non => exact .inr (.inl rfl)
      | bl b => exact .inr (.inr (.inl ⟨b, rfl⟩))
      | int i => exact .inr (.inr (.inr (.inl ⟨i, rfl⟩)))
      | str z => exact .inl ⟨z, rfl, Nat.le_trans (h2 z rfl) (by decide)⟩
      | _ => cases h1
    · rw [sqV_atom h1]; exact atom_lt h1
  | dc =>
    obtain ⟨a, kvs, rfl, _, ha⟩ := thAt_dc h
    refine ⟨⟨.inr (.inr (.inr (.inr ⟨a, "dict", rfl, .base (.dK ha), by simp⟩))), "dict", .base (.dK ha), ?_⟩, sqV_dict ha, rfl, rfl⟩
    rw [sqV_dict ha]
    decide +kernel
  | sq ts =>
    obtain ⟨_, a, kd, xs, _, rfl, _, ha, _, _⟩ := thAt_sq h
    refine ⟨⟨.inr (.inr (.inr (.inr ⟨a, _, rfl, seq_ty ha, by cases kd <;> simp [seqT]⟩))), _, seq_ty ha, ?_⟩, sqV_seq ha, rfl, rfl⟩
    rw [sqV_seq ha]
    exact seq_lt kd
theorem th_lt {K : PySem.W.Frag} {ok : Addr → Prop} {H : Hp} {m : Nat} {v : V} {t : Th} (h : ThAt ok H m v t) : ∃ T, TyX K H v (.type T) ∧ kitAnyB T ["list", "tuple"] = some (isSq t) := by
  obtain ⟨⟨_, T, h1, h2⟩, e, _⟩ := th_kn (K := K) h
  exact ⟨T, h1, by rw [h2, e]⟩
theorem rowB_rowT {ok : Addr → Prop} {H : Hp} {m : Nat} {wi : Bool} {xs : List V} {ts : List Th} (h : Paired (ThAt ok H m) xs ts) : rowB (sqV H) wi xs = rowT wi (.sq ts) := by
  have fld : ∀ {f : Str} {v : V} {t : Th}, ThAt ok H m v t → fieldB (sqV H) f v = fieldT f t := fun {f v t} q => by
    obtain ⟨_, h1, h2, h3⟩ := th_kn (K := default) q
    unfold fieldB fieldT
    rw [h1, h2, h3]
  cases h with
  | nil => rfl
  | @cons v t xs ts r tl =>
    have go : ∀ {z : Str}, v = .str z → t = .at (.str z) → rowB (sqV H) wi (v :: xs) = rowT wi (.sq (t :: ts)) := by
      intro z e1 e2
      subst e1 e2
      have e : ∀ fs : List Str, ((fs.zip xs).all fun p => fieldB (sqV H) p.1 p.2) = ((fs.zip ts).all fun p => fieldT p.1 p.2) := by
        clear r
        induction tl with
        | nil => intro fs; rw [List.zip_nil_right, List.zip_nil_right]; rfl
        | cons r _ ih =>
          intro fs
          cases fs with
          | nil => rfl
          | cons f fs => rw [List.zip_cons_cons, List.zip_cons_cons, List.all_cons, List.all_cons, ih fs]; rw [show fieldB (sqV H) f _ = _ from fld r]
      rw [rowB_str]
      show _ = (match fieldsOf z with
        | some fs => !(wi && (decide (z = "make") || decide (z = "call"))) && (decide (ts.length = fs.length) && ((fs.zip ts).all fun p => fieldT p.1 p.2))
        | none => false)
      cases fieldsOf z with
      | none => rfl
      | some fs =>
        show (!(wi && _) && (decide (xs.length = fs.length) && _)) = (!(wi && _) && (decide (ts.length = fs.length) && _))
        rw [e fs, paired_len tl]
    cases t with
    | «at» x =>
      obtain ⟨rfl, hx⟩ := thAt_at r
      cases v with
      | str z => exact go rfl rfl
      | _ => rfl
    | dc =>
      obtain ⟨a, kvs, rfl, _⟩ := thAt_dc r
      rfl
    | sq us =>
      obtain ⟨_, a, kd, ys, _, rfl, _⟩ := thAt_sq r
      rfl
def toT : Nat → Row → Th
  | _, .plain w fs => .sq (.at (.str w) :: fs.map .at)
  | d + 1, .make n b => .sq [.at (.str "make"), .at (.str n), .sq (b.map (toT d))]
  | d + 1, .when n b c => .sq [.at (.str "when"), .at (.str n), .sq (b.map (toT d)), .sq (c.map (toT d))]
  | d + 1, .try_ b c => .sq [.at (.str "try"), .sq (b.map (toT d)), .sq (c.map (toT d))]
  | 0, _ => .at .non
theorem small_fld {k : Bool} {v : V} (h : fldOk k v = true) : smallT v = true := by
  cases k <;> cases v <;> first | rfl | cases h | skip
  rename_i z
  have := isW_len h
  show (true && decide (z.length ≤ 1000)) = true
  rw [decide_eq_true (by omega)]
  rfl
theorem small_word {z : Str} (h : isW z = true) : smallT (.str z) = true := small_fld (k := true) h
theorem paired_selfT {R : V → Th → Prop} : ∀ {fs : List V}, (∀ v ∈ fs, R v (.at v)) → Paired R fs (fs.map Th.at)
  | [], _ => .nil
  | v :: fs, h => .cons (h v (by simp)) (paired_selfT fun u hu => h u (by simp [hu]))
theorem paired_mapT {α β γ : Type} {R : α → γ → Prop} {f : β → γ} : ∀ {xs : List α} {ys : List β}, Paired (fun x y => R x (f y)) xs ys → Paired R xs (ys.map f)
  | _, _, .nil => .nil
  | _, _, .cons r t => .cons r (paired_mapT t)
theorem plain_small {wi : Bool} {w : Str} {fs : List V} (h : plainOk wi w fs) : smallT (.str w) = true ∧ (∀ v ∈ fs, smallT v = true) ∧ fs.length ≤ 3 := by
  obtain ⟨ks, hk, hp, _⟩ := h
  have lw : ∀ p ∈ plainT, p.1.length ≤ 8 := by decide +kernel
  refine ⟨?_, fun v hv => ?_, by rw [← paired_len hp]; exact plain_len hk⟩
  · have : w.length ≤ 8 := lw _ hk
    show (true && decide (w.length ≤ 1000)) = true
    rw [decide_eq_true (by omega)]
    rfl
  · obtain ⟨i, hi, e⟩ := List.mem_iff_getElem.mp hv
    obtain ⟨k, _, r⟩ := paired_getR hp (i := i) (y := v) (by rw [List.getElem?_eq_getElem hi, e])
    exact small_fld r
theorem row_th {ok : Addr → Prop} {kk : Bool → Bool → Prop} {H : Hp} : ∀ (d : Nat) (wi : Bool) (v : V) (r : Row), RowOk d wi r → RowAt ok kk H d v r → ThAt ok H (2 * d + 1) v (toT d r) := by
  have plain : ∀ {m : Nat} {v : V} {w : Str} {fs : List V} {wi : Bool}, plainOk wi w fs → At ok (kk false) H v (.str w :: fs) → ThAt ok H (m + 1) v (.sq (.at (.str w) :: fs.map .at)) := fun {m v w fs wi} hp ⟨a, kd, e, k, _, ha⟩ => by
    obtain ⟨h1, h2, h3⟩ := plain_small hp
    exact ⟨a, kd, _, e, k, ha, by rw [List.length_cons, List.length_map]; omega, .cons (thAt_at' h1) (paired_selfT fun u hu => thAt_at' (h2 u hu))⟩
  have blk : ∀ {d m : Nat} {v : V} {xs : List V} {b : List Row} , b.length ≤ 24 → (∀ v r, r ∈ b → RowAt ok kk H d v r → ThAt ok H m v (toT d r)) → At ok (kk true) H v xs → Paired (RowAt ok kk H d) xs b → ThAt ok H (m + 1) v (.sq (b.map (toT d))) := fun {d m v xs b} hl ih ⟨a, kd, e, k, _, ha⟩ hp =>
    ⟨a, kd, xs, e, k, ha, by rw [List.length_map]; omega, paired_mapT (paired_impM hp fun x r hr q => ih x r hr q)⟩
  have s1 : smallT (.str "make") = true := by decide +kernel
  have s2 : smallT (.str "when") = true := by decide +kernel
  have s3 : smallT (.str "try") = true := by decide +kernel
  intro d
  induction d with
  | zero =>
    intro wi v r hk h
    cases r with
    | plain w fs => exact plain hk h
    | _ => exact h.elim
  | succ d ih =>
    intro wi v r hk h
    have e2 : 2 * (d + 1) + 1 = 2 * d + 1 + 1 + 1 := by omega
    rw [e2]
    cases r with
    | plain w fs => exact plain hk h
    | make n b =>
      obtain ⟨vb, xs, ⟨a, kd, e, k, _, ha⟩, h2, h3⟩ := h
      exact ⟨a, kd, _, e, k, ha, by show 3 ≤ 100; decide, .cons (thAt_at' s1) (.cons (thAt_at' (small_word hk.2.1)) (.cons (blk hk.2.2.1 (fun v r hr => ih true v r (hk.2.2.2 r hr)) h2 h3) .nil))⟩
    | when n b c =>
      obtain ⟨vb, xs, vc, ys, ⟨a, kd, e, k, _, ha⟩, h2, h3, h4, h5⟩ := h
      exact ⟨a, kd, _, e, k, ha, by show 4 ≤ 100; decide, .cons (thAt_at' s2) (.cons (thAt_at' (small_word hk.1)) (.cons (blk hk.2.1 (fun v r hr => ih wi v r (hk.2.2.2.1 r hr)) h2 h3) (.cons (blk hk.2.2.1 (fun v r hr => ih wi v r (hk.2.2.2.2 r hr)) h4 h5) .nil)))⟩
    | try_ b c =>
      obtain ⟨vb, xs, vc, ys, ⟨a, kd, e, k, _, ha⟩, h2, h3, h4, h5⟩ := h
      exact ⟨a, kd, _, e, k, ha, by show 3 ≤ 100; decide, .cons (thAt_at' s3) (.cons (blk hk.1 (fun v r hr => ih wi v r (hk.2.2.1 r hr)) h2 h3) (.cons (blk hk.2.1 (fun v r hr => ih wi v r (hk.2.2.2 r hr)) h4 h5) .nil))⟩
theorem th_atoms {ok : Addr → Prop} {H : Hp} {m : Nat} : ∀ {xs fs : List V}, Paired (ThAt ok H m) xs (fs.map Th.at) → xs = fs
  | [], [], _ => rfl
  | x :: xs, [], h => by cases h
  | [], y :: ys, h => by cases h
  | x :: xs, y :: ys, h => by
    cases h with
    | cons r t => rw [(thAt_at r).1, th_atoms t]
theorem paired_mapT' {α β γ : Type} {R : α → γ → Prop} {f : β → γ} : ∀ {xs : List α} {ys : List β}, Paired R xs (ys.map f) → Paired (fun x y => R x (f y)) xs ys
  | [], [], _ => .nil
  | x :: xs, [], h => by cases h
  | [], y :: ys, h => by cases h
  | x :: xs, y :: ys, h => by
    cases h with
    | cons r t => exact .cons r (paired_mapT' t)
theorem th_row {ok : Addr → Prop} {H : Hp} : ∀ (d : Nat) (wi : Bool) (m : Nat) (v : V) (r : Row), RowOk d wi r → ThAt ok H m v (toT d r) → RowAt ok anyK H d v r := by
  have plain : ∀ {m : Nat} {v : V} {w : Str} {fs : List V}, ThAt ok H m v (.sq (.at (.str w) :: fs.map .at)) → At ok (anyK false) H v (.str w :: fs) := by
    intro m v w fs h
    obtain ⟨m', a, kd, xs, rfl, e, k, ha, _, hp⟩ := thAt_sq h
    cases hp with
    | cons r t =>
      rw [(thAt_at r).1, th_atoms t] at ha
      exact ⟨a, kd, e, k, trivial, ha⟩
  intro d
  induction d with
  | zero =>
    intro wi m v r hk h
    cases r with
    | plain w fs => exact plain h
    | _ => exact hk.elim
  | succ d ih =>
    intro wi m v r hk h
    have blk : ∀ {m : Nat} {v : V} {b : List Row} {wi : Bool}, (∀ r ∈ b, RowOk d wi r) → ThAt ok H m v (.sq (b.map (toT d))) → ∃ xs, At ok (anyK true) H v xs ∧ Paired (RowAt ok anyK H d) xs b := by
      intro m v b wi hb h
      obtain ⟨m', a, kd, xs, rfl, e, k, ha, _, hp⟩ := thAt_sq h
      exact ⟨xs, ⟨a, kd, e, k, trivial, ha⟩, paired_impM (paired_mapT' hp) fun x r hr q => ih wi m' x r (hb r hr) q⟩
    cases r with
    | plain w fs => exact plain h
    | make n b =>
      obtain ⟨m', a, kd, xs, rfl, e, k, h1, _, h2⟩ := thAt_sq h
      cases h2 with
      | cons r1 t =>
        cases t with
        | cons r2 t =>
          cases t with
          | cons r3 t =>
            cases t
            rw [(thAt_at r1).1, (thAt_at r2).1] at h1
            obtain ⟨ys, h3, h4⟩ := blk hk.2.2.2 r3
            exact ⟨_, ys, ⟨a, kd, e, k, trivial, h1⟩, h3, h4⟩
    | when n b c =>
      obtain ⟨m', a, kd, xs, rfl, e, k, h1, _, h2⟩ := thAt_sq h
      cases h2 with
      | cons r1 t =>
        cases t with
        | cons r2 t =>
          cases t with
          | cons r3 t =>
            cases t with
            | cons r4 t =>
              cases t
              rw [(thAt_at r1).1, (thAt_at r2).1] at h1
              obtain ⟨ys, h3, h4⟩ := blk hk.2.2.2.1 r3
              obtain ⟨zs, h5, h6⟩ := blk hk.2.2.2.2 r4
              exact ⟨_, ys, _, zs, ⟨a, kd, e, k, trivial, h1⟩, h3, h4, h5, h6⟩
    | try_ b c =>
      obtain ⟨m', a, kd, xs, rfl, e, k, h1, _, h2⟩ := thAt_sq h
      cases h2 with
      | cons r1 t =>
        cases t with
        | cons r3 t =>
          cases t with
          | cons r4 t =>
            cases t
            rw [(thAt_at r1).1] at h1
            obtain ⟨ys, h3, h4⟩ := blk hk.2.2.1 r3
            obtain ⟨zs, h5, h6⟩ := blk hk.2.2.2 r4
            exact ⟨_, ys, _, zs, ⟨a, kd, e, k, trivial, h1⟩, h3, h4, h5, h6⟩
end Ft
set_option Elab.async false
set_option linter.all false
set_option maxRecDepth 100000
set_option maxHeartbeats 4000000
namespace Ft
open PySem L2
/-- a right library -/
structure LibR (lib : Lib) : Prop where
  few : lib.length ≤ 4
  pos : 0 < lib.length
  nd : (lib.map (·.1)).Nodup
  word : ∀ m ∈ lib, isW m.1 = true
  len : ∀ m ∈ lib, m.2.length ≤ 24
  rows : ∀ m ∈ lib, ∀ r ∈ m.2, RowOk 3 false r
section
variable {P : Program} {w : World} {K : PySem.W.Frag} {mg : Str → Option Value} {base : Heap}
abbrev sCheckModules : Stmt := topS 18
theorem scCheckModules : FnScope ["modules", "word", "path"] ["modules"] (defScope sCheckModules) := ⟨rfl, rfl, rfl, by decide +kernel, rfl, by decide +kernel, by decide +kernel⟩
def spCheckModules : Sp := fun vs H Q _ => ∃ (dm : Addr) (kvs : List (Key × V)) (lib : Lib) (ok : Addr → Prop) (kk : Bool → Bool → Prop), vs = [.ref dm] ∧ H dm = some (.dK kvs) ∧ LibAt ok kk H kvs lib ∧ LibR lib ∧ ∀ H', Same H H' → Q .non H'
theorem ok_CheckModules {f : Addr} {fd : FuncData} {k : Nat} (F : Fun K "check_modules" "check_modules" sCheckModules f fd) (B : Bl mg) (hk : 8 ≤ k) (gIsWord : Own P w K mg base 1 "is_word" ["thing"] (spIsWord K)) (gFirstWrong : Own P w K mg base 8 "first_wrong" ["rows", "path", "is_within"] (spFirstWrong 3)) : FnOk P w K mg base CX0 (k + 1) f fd ["modules"] spCheckModules := by
  refine F.ok scCheckModules (fun vs H Q E h => ?_) (fun cdv A outer s H vs Q E hr h => ?_)
  · obtain ⟨dm, kvs, lib, ok, kk, rfl, _⟩ := h
    rfl
  obtain ⟨dm, kvs, lib, ok, kk, rfl, hdm, hlib, lr, q⟩ := h
  refine ⟨_, (pss_cons (ps_if (PW.pt (pw_or (pt_not (pt_val (pe_callB call_isi (by rfl) B.isinstance (by decide +kernel) (pa_cons (pv 0) (pa_cons (pe_bltn (v := .ty "dict") (by rfl) B.dict (by decide +kernel) rfl) pa_nil))))) (pw_or (pt_cmpR op_eq (pe_callB call_lenD (by rfl) B.len (by decide +kernel) (pa_cons (pv 0) pa_nil)) pe_int (nomark _)) (pw_or1 (pt_not (pt_val (pe_callB (cr_all rfl) (by rfl) B.all (by decide +kernel) (pa_cons (pe_lock (pe_lc (own := [("word", 1)]) (g := (gName 1)) (tt := tYes) (by rfl) scCheckModules.nd (pi_keys (pv 0)) (blkOk_by (own := [("word", 1)]) (N := ["modules", "word", "path"]) (sc := defScope sCheckModules) (by decide +kernel)) (fun _ _ _ _ _ => (pg_name (i := 1) scCheckModules.nd rfl (by first | exact Or.inl rfl | exact Or.inr rfl))) (fun _ _ _ _ _ => pts_nil) (fun _ _ _ _ _ => (pe_own gIsWord (hr.mono (by omega)) (by rfl) (pa_cons (pv 1) pa_nil))))) pa_nil)))))))) (pss_one ps_never) pss_nil)
      (pss_one (ps_for PassesOwn.never rfl (pi_list (pe_callB (call_sortedD rfl) (by rfl) B.sorted (by decide +kernel) (pa_cons (pv 0) pa_nil))) (pg_name (i := 1) scCheckModules.nd rfl (by first | exact Or.inl rfl | exact Or.inr rfl)) (pss_cons (ps_if (pt_not (pt_val (pe_callB call_isiT (by rfl) B.isinstance (by decide +kernel) (pa_cons (pe_dget (hu_of hr) (pv 0) (pv 1) (fun _ _ => rfl)) (pa_cons (pe_tup (pa_cons (pe_bltn (v := .ty "list") (by rfl) B.list (by decide +kernel) rfl) (pa_cons (pe_bltn (v := .ty "tuple") (by rfl) B.tuple (by decide +kernel) rfl) pa_nil))) pa_nil))))) (pss_one ps_never) pss_nil)
      (pss_cons (ps_set (i := 2) scCheckModules.nd rfl (by first | exact Or.inl rfl | exact Or.inr rfl) (pe_own gFirstWrong (hr.mono (by omega)) (by rfl) (pa_cons (pe_dget (hu_of hr) (pv 0) (pv 1) (fun _ _ => rfl)) (pa_cons (pe_tup pa_nil) (pa_cons pe_bl pa_nil)))))
      (pss_one (ps_if (pt_cmpR op_notN (pv 2) pe_non (nomark _)) (pss_one ps_never) pss_nil))))))), ?_⟩
  have hkeys := libAt_keys hlib
  have hkl := libAt_len hlib
  have few := lr.few
  have keysW : ∀ z ∈ lib.map (·.1), isW z = true := fun z hz => by
    obtain ⟨m, hm, e⟩ := List.mem_map.mp hz
    rw [← e]; exact lr.word m hm
  refine ⟨_, rfl, _, _, _, _, _, rfl, .ty _, .base (.dK hdm), kit_ty (r := true) (by decide +kernel), true, rfl, iteF ?_⟩
  refine ⟨_, rfl, dm, kvs, rfl, hdm, rfl, _, rfl, ?_⟩
  have e0 : decide (V.int ((kvs.length : Nat) : Int) = V.int 0) = false := decide_eq_false (fun e => by
    have := V.int.inj e
    have := lr.pos
    omega)
  rw [e0]
  refine iteF ?_
  -- the keys
  refine ⟨dm, .dK kvs, hdm, trivial, fun od => ?_⟩
  refine ⟨_, rfl, dm, od, rfl, .inl ⟨kvs, upd_same, fun L nL => ?_⟩⟩
  have Ld : L ≠ dm := fun e => by rw [e, upd_same] at nL; cases nL
  refine lc_it walk_keys (fun i H' => Same (upd H dm (.frz od (.dK kvs))) H' ∧ H' L = some (.lst (List.replicate i (.bl true))))
    ⟨Same.new nL, upd_same⟩ (fun i H' _ ⟨sm, _⟩ => sm _ _ upd_same) ?_ ?_
  · rintro i x H1 H2 hi ⟨sm, hL⟩ ⟨rfl, kk', v', hkv, rfl⟩
    refine ⟨rfl, ?_⟩
    obtain ⟨z, hz, rfl⟩ : ∃ z, isW z = true ∧ kk' = Sum.inr z := by
      have : (kvs.map (·.1))[i]? = some kk' := by rw [List.getElem?_map, hkv]; rfl
      rw [hkeys, List.getElem?_map] at this
      obtain ⟨z, h1, h2⟩ := Option.map_eq_some_iff.mp this
      exact ⟨z, keysW z (List.mem_of_getElem? h1), h2.symm⟩
    have hzl := isW_len hz
    refine ⟨_, rfl, .str z, rfl, .inl ⟨z, rfl, smallE (by omega)⟩, fun H3 s3 => ?_⟩
    refine ⟨_, s3 _ _ hL, by rw [List.length_replicate]; exact small (by omega), Same.upN (Same.trans sm s3) nL, ?_⟩
    show (upd H3 L (.lst (List.replicate i (.bl true) ++ [.bl (isW z)]))) L = _
    rw [upd_same, hz, List.replicate_succ']
  · rintro H1 ⟨sm, hL⟩
    have hd1 : H1 dm = some (.frz od (.dK kvs)) := sm _ _ upd_same
    have sm1 : Same H (upd H1 dm (.dK kvs)) := fun b o e => by
      by_cases eb : b = dm
      · rw [eb, hdm] at e
        rw [eb, upd_same]; exact e
      · rw [upd_ne eb]
        exact sm _ _ (by rw [upd_ne eb]; exact e)
    refine ⟨hd1, L, List.replicate kvs.length true, rfl, SqL.of (by rw [upd_ne Ld, hL, List.map_replicate]), ?_⟩
    have ea : (List.replicate kvs.length true).all id = true := by
      rw [List.all_eq_true]
      intro b hb
      rw [List.eq_of_mem_replicate hb]; rfl
    rw [ea]
    refine ⟨true, rfl, iteF ?_⟩
    generalize hG : upd H1 dm _ = G at *
    have hdG : G dm = some (.dK kvs) := by rw [← hG]; exact upd_same
    -- sorted(modules)
    refine ⟨_, rfl, dm, kvs, lib.map (·.1), rfl, .inl hdG, hkeys, by rw [List.length_map]; omega, fun ys l0 hperm hsort nl0 => ?_⟩
    have s2 : Same G (upd G l0 (.lst (ys.map V.str))) := Same.new nl0
    refine ⟨l0, rfl, ⟨_, SqL.of upd_same⟩, ?_⟩
    refine for_it (walk_list (xs := ys.map V.str)) (fun i σ H' => Same (upd G l0 (.lst (ys.map V.str))) H' ∧ ∃ v1 v2, σ = [some (.ref dm), v1, v2])
      ⟨Same.refl _, _, _, rfl⟩ (fun i σ H' _ ⟨sm, _⟩ => SqL.of (sm _ _ upd_same)) ?_ ?_
    · rintro i x σ H2 H3 hi ⟨s3, v1, v2, rfl⟩ ⟨rfl, hx⟩
      obtain ⟨z, hz, rfl⟩ : ∃ z, z ∈ ys ∧ x = .str z := by
        rw [List.getElem?_map] at hx
        obtain ⟨z, h1, h2⟩ := Option.map_eq_some_iff.mp hx
        exact ⟨z, List.mem_of_getElem? h1, h2.symm⟩
      obtain ⟨⟨z', rs⟩, hm, e⟩ := List.mem_map.mp (hperm.mem_iff.mp hz)
      have e' : z' = z := e
      subst e'
      have s4 : Same H H3 := Same.trans sm1 (Same.trans s2 s3)
      have hlib3 : LibAt ok kk H3 kvs lib := hlib.to (Keep.fr (Fr.same s4) fun _ k => k)
      obtain ⟨v, hv, hrows⟩ := libAt_val hlib3 lr.nd hm
      have hd3 : H3 dm = some (.dK kvs) := s4 _ _ hdm
      have dg : DGet H3 dm (.str z') (some v) := by rw [← hv]; exact DGet.k (k := Sum.inr z') hd3
      obtain ⟨xs, hat, hall⟩ := id hrows
      have hat' := hat
      obtain ⟨a, kd, rfl, oka, kka, ha⟩ := hat'
      refine ⟨_, rfl, _, rfl, dm, .ref a, rfl, dg, (by show 2 ≤ sizeLine; decide), fun t0 nt => ?_⟩
      refine ⟨_, t0, _, _, _, _, rfl, upd_same, clsV_all ["list", "tuple"], seq_ty (Same.new nt _ _ ha), kitAny_of (seq_lt kd), true, rfl, iteF ?_⟩
      have s5 : Same H3 (upd H3 t0 (.tup [.ty "list", .ty "tuple"])) := Same.new nt
      generalize hG3 : upd H3 t0 _ = G3 at *
      have hd4 : G3 dm = some (.dK kvs) := s5 _ _ hd3
      have dg4 : DGet G3 dm (.str z') (some (.ref a)) := by rw [← hv]; exact DGet.k (k := Sum.inr z') hd4
      refine ⟨_, rfl, _, rfl, dm, .ref a, rfl, dg4, Nat.zero_le _, fun t1 nt1 => ?_⟩
      have s6 : Same H3 (upd G3 t1 (.tup [])) := Same.trans s5 (Same.new nt1)
      refine ⟨.ref a, .ref t1, ok, kk, false, rs, [], rfl, hrows.to (Keep.fr (Fr.same s6) fun _ k => k), lr.len _ hm, lr.rows _ hm, ⟨t1, rfl, upd_same⟩, by simp, fun G4 s7 => ?_⟩
      exact ⟨_, rfl, rfl, _, rfl, iteF ⟨Same.trans s3 (Same.trans s6 s7), _, _, rfl⟩⟩
    · rintro σ H2 ⟨s3, v1, v2, rfl⟩
      exact q _ (Same.trans sm1 (Same.trans s2 s3))
end
end Ft
set_option Elab.async false
set_option linter.all false
set_option maxRecDepth 100000
set_option maxHeartbeats 1000000
set_option pp.maxSteps 3000
set_option pp.deepTerms.threshold 8
namespace Ft
open PySem L2
/-- what is told of the first wrong row -/
def FoundAt (H : Hp) (x : V) : Option (List Int) → Prop
  | none => x = .non
  | some y => PathAt H x y
theorem rowTh_of {ok : Addr → Prop} {H : Hp} {m : Nat} {v : V} {t : Th} {wi : Bool} (h : rowT wi t = true) (hat : ThAt ok H (m + 1) v t) :
    ∃ a kd z rest us fs, v = .ref a ∧ ok a ∧ H a = some (mkO kd (.str z :: rest)) ∧ t = .sq (.at (.str z) :: us) ∧ fieldsOf z = some fs ∧ us.length = fs.length ∧ rest.length = fs.length ∧ fs.length ≤ 3 ∧ Paired (ThAt ok H m) rest us ∧ (∀ p ∈ fs.zip us, fieldT p.1 p.2 = true) ∧ (wi && (decide (z = "make") || decide (z = "call"))) = false := by
  obtain ⟨z, us, fs, rfl, hf, hl, hp, hw⟩ := rowT_inv h
  obtain ⟨m', a, kd, xs, e0, e, k, ha, _, hx⟩ := thAt_sq hat
  obtain rfl : m = m' := Nat.succ.inj e0
  cases hx with
  | cons r tl =>
    rw [(thAt_at r).1] at ha
    exact ⟨a, kd, z, _, us, fs, e, k, ha, rfl, hf, hl, (paired_len tl).trans hl, fields_len (fieldsOf_some hf), tl, hp, hw⟩
theorem isRow_th {K : PySem.W.Frag} {ok : Addr → Prop} {H : Hp} {m : Nat} {v : V} {t : Th} {wi : Bool} {Q : VK} {E : XK} (h : ThAt ok H m v t) (q : ∀ H', Same H H' → Q (.bl (rowT wi t)) H') : spIsRow K [v, .bl wi] H Q E := by
  refine ⟨v, wi, rfl, ?_⟩
  cases t with
  | «at» x =>
    obtain ⟨T, h1, h2⟩ := th_lt (K := K) h
    exact .inl ⟨T, h1, h2, fun H' s => q H' s⟩
  | dc =>
    obtain ⟨T, h1, h2⟩ := th_lt (K := K) h
    exact .inl ⟨T, h1, h2, fun H' s => q H' s⟩
  | sq ts =>
    obtain ⟨m', a, kd, xs, rfl, rfl, k, ha, hl, hp⟩ := thAt_sq h
    refine .inr ⟨a, kd, xs, sqV H, rfl, ha, by rw [paired_len hp]; omega, fun x hx => ?_, fun H' s => ?_⟩
    · obtain ⟨i, hi, e⟩ := List.mem_iff_getElem.mp hx
      obtain ⟨t, _, ht⟩ := paired_get hp (i := i) (x := x) (by rw [List.getElem?_eq_getElem hi, e])
      exact (th_kn ht).1
    · rw [rowB_rowT hp]
      exact q H' s
def blkOfT (p : Str × Th) : Option (List Th) := if p.1 = "block" then some (subs p.2) else none
theorem blksT_eq {z : Str} {us : List Th} {fs : List Str} (hf : fieldsOf z = some fs) : blksT (.sq (.at (.str z) :: us)) = (fs.zip us).filterMap blkOfT := by
  show (((fieldsOf z).getD []).zip us).filterMap blkOfT = _
  rw [hf]
  rfl
theorem rowT_blk {p : Str × Th} (h : fieldT p.1 p.2 = true) (e : p.1 = "block") : ∃ b, p.2 = .sq b := by
  unfold fieldT at h
  rw [e, if_neg (by decide), if_neg (by decide)] at h
  cases hb : p.2 with
  | sq b => exact ⟨b, rfl⟩
  | _ => rw [hb] at h; cases h
theorem blksT_few {z : Str} {us : List Th} {fs : List Str} (hf : fieldsOf z = some fs) (h3 : fs.length ≤ 3) : (blksT (.sq (.at (.str z) :: us))).length ≤ 3 := by
  rw [blksT_eq hf]
  refine Nat.le_trans (List.length_filterMap_le _ _) ?_
  rw [List.length_zip]
  omega
def spBlocksT : Sp := fun vs H Q _ => ∃ (v : V) (ok : Addr → Prop) (m : Nat) (t : Th), vs = [v] ∧ ThAt ok H (m + 1) v t ∧ rowT false t = true ∧
  ∀ H' p ys, Same H H' → H p = none → H' p = some (.lst ys) → Paired (fun y b => ThAt ok H m y (.sq b)) ys (blksT t) → Q (.ref p) H'
section
variable {P : Program} {w : World} {K : PySem.W.Frag} {mg : Str → Option Value} {base : Heap}
theorem ok_BlocksOfT {f dF : Addr} {fd : FuncData} {k : Nat} (F : Fun K "blocks_of" "blocks_of" sBlocksOf f fd) (B : Bl mg) (TF : FldT K w mg dF) : FnOk P w K mg base CX0 (k + 1) f fd ["row"] spBlocksT := by
  obtain ⟨es, nn, D⟩ := TF.dict
  refine F.ok scBlocksOf (fun vs H Q E h => ?_) (fun cdv A outer s H vs Q E hr h => ?_)
  · obtain ⟨v, ok, m, t, rfl, _⟩ := h
    rfl
  obtain ⟨v, ok, m, t, rfl, hat, hrow, q⟩ := h
  refine ⟨_, (pss_one (ps_ret (pe_lc (own := [("field", 1), ("part", 2)]) (g := (gTup _ 2 (gCons (gName 1) (gCons (gName 2) gNil)))) (by rfl) scBlocksOf.nd (pi_zipQ (by rfl) B.zip (pa_cons (pe_ix ix_kdict (pe_glob (v := .ref dF) (by rfl) TF.g rfl) (pe_ix ix_seq (pv 0) pe_int (fun _ _ => rfl)) (fun _ _ => rfl)) (pa_cons (pe_slice sl_seq (pv 0) (po_some pe_int) po_none) pa_nil))) (blkOk_by (own := [("field", 1), ("part", 2)]) (N := ["row", "field", "part"]) (sc := defScope sBlocksOf) (by decide +kernel)) (fun _ _ _ _ _ => (pg_tup (by rfl) (pgs_cons (pg_name (i := 1) scBlocksOf.nd rfl (by first | exact Or.inl rfl | exact Or.inr rfl)) (pgs_cons (pg_name (i := 2) scBlocksOf.nd rfl (by first | exact Or.inl rfl | exact Or.inr rfl)) pgs_nil)))) (fun _ _ _ _ _ => (pts_one (pt_cmpR op_eq (pv 1) pe_str (nomark _)))) (fun _ _ _ _ _ => (pv 2))))), ?_⟩
  obtain ⟨a, kd, z, rest, us, fs, rfl, oka, ha, rfl, hf, lus, lrest, few, hx, hfld, _⟩ := rowTh_of hrow hat
  have hfs := fieldsOf_some hf
  obtain ⟨tA, hn, htA⟩ := TF.val _ hfs
  have ix : ∀ {Q' : VK}, Q' (.str z) H → rIx K (.ref a) (.int 0) H Q' := fun h => rIx_seq (sq_of ha) (atI_nat (j := 0) rfl) h
  refine ⟨_, rfl, ix ⟨dF, z, .ref tA, rfl, rfl, ⟨es, nn, .ref tA, D.at_, D.lit, hn, rfl⟩, ?_⟩⟩
  refine ⟨_, rfl, 1, rfl, rSl1 ha fun p G sm np hp => ?_⟩
  refine ⟨tA, p, false, kd, _, rest, rfl, htA G, sq_of hp, fun L nL => ?_⟩
  refine lc_it (walk_zipQ (n := fs.length) (by rw [List.length_map]; dsimp only; omega)) (fun i H' => Same G H' ∧ ∃ ys, H' L = some (.lst ys) ∧ Paired (fun y b => ThAt ok H m y (.sq b)) ys (((fs.zip us).take i).filterMap blkOfT) ∧ ys.length ≤ i)
    ⟨Same.new nL, [], upd_same, .nil, Nat.le_refl _⟩ (fun i H' _ ⟨s4, _⟩ => ⟨htA H', sq_of (s4 _ _ hp)⟩) ?_ ?_
  · rintro i x H1 H2 hi ⟨s4, ys, hL, hys, hle⟩ ⟨T, x1, x2, rfl, nT, rfl, e1, e2⟩
    obtain ⟨u, hu, hx2⟩ := paired_get hx e2
    obtain ⟨ff, hff, rfl⟩ : ∃ ff, fs[i]? = some ff ∧ x1 = .str ff := by
      have e1' : (fs.map V.str)[i]? = some x1 := e1
      rw [List.getElem?_map] at e1'
      obtain ⟨ff, h1, h2⟩ := Option.map_eq_some_iff.mp e1'
      exact ⟨ff, h1, h2.symm⟩
    have ez : (fs.zip us)[i]? = some (ff, u) := List.getElem?_zip_eq_some.mpr ⟨hff, hu⟩
    have fok := hfld _ (List.mem_of_getElem? ez)
    have s5 : Same G (upd H1 T (.tup [.str ff, x2])) := Same.trans s4 (Same.new nT)
    have nLT : L ≠ T := ne_of_none hL nT
    have hL2 : (upd H1 T (.tup [.str ff, x2])) L = some (.lst ys) := by rw [upd_ne nLT]; exact hL
    have et : (fs.zip us).take (i + 1) = (fs.zip us).take i ++ [(ff, u)] := by rw [List.take_add_one, ez]; rfl
    refine ⟨T, _, rfl, SqT.of upd_same, rfl, _, _, rfl, _, _, rfl, rfl, rfl, ?_⟩
    refine ⟨_, rfl, rfl, _, rfl, ite2 (fun c => ?_) (fun c => ?_)⟩
    · have ec : ff = "block" := V.str.inj (of_decide_eq_true c)
      obtain ⟨b, hb⟩ := rowT_blk fok ec
      obtain rfl : u = .sq b := hb
      refine ⟨_, rfl, ys, hL2, small (by omega), Same.upN s5 nL, ys ++ [x2], upd_same, ?_, by simp; omega⟩
      rw [et, List.filterMap_append]
      have eb : List.filterMap blkOfT [(ff, .sq b)] = [b] := by
        rw [List.filterMap_cons, List.filterMap_nil]
        unfold blkOfT
        rw [if_pos ec]
        rfl
      rw [eb]
      exact paired_app (R := fun y b => ThAt ok H m y (.sq b)) hx2 hys
    · have ec : ff ≠ "block" := fun h => c (by rw [h]; exact decide_eq_true rfl)
      refine ⟨s5, ys, hL2, ?_, by omega⟩
      rw [et, List.filterMap_append]
      have eb : List.filterMap blkOfT [(ff, u)] = [] := by
        rw [List.filterMap_cons, List.filterMap_nil]
        unfold blkOfT
        rw [if_neg ec]
      rw [eb, List.append_nil]
      exact hys
  · rintro H1 ⟨s4, ys, hL, hys, hle⟩
    rw [List.take_of_length_le (by rw [List.length_zip]; omega)] at hys
    rw [← blksT_eq hf] at hys
    exact q _ L ys (Same.trans sm s4) (Same.free sm nL) hL hys
def spFirstWrongT (d : Nat) : Sp := fun vs H Q _ => ∃ (v pv : V) (ok : Addr → Prop) (wi : Bool) (ts : List Th) (p : List Int), vs = [v, pv, .bl wi] ∧ ThAt ok H (2 * d + 2) v (.sq ts) ∧ PathAt H pv p ∧ p.length + 2 * d ≤ 100 ∧
  ∀ H', Same H H' → ∀ x, FoundAt H' x (firstLT d wi p ts) → Q x H'
theorem ok_FirstWrongT {f : Addr} {fd : FuncData} {k d : Nat} {spF : Sp} (F : Fun K "first_wrong" "first_wrong" sFirstWrong f fd) (B : Bl mg) (hk : 4 ≤ k) (gIsRow : Own P w K mg base 4 "is_row" ["thing", "is_within"] (spIsRow K)) (gBlocksOf : Own P w K mg base 1 "blocks_of" ["row"] spBlocksT)
    (gFirstWrong : Own P w K mg base k "first_wrong" ["rows", "path", "is_within"] spF) (hF : ∀ e, d = e + 1 → spF = spFirstWrongT e) : FnOk P w K mg base CX0 (k + 1) f fd ["rows", "path", "is_within"] (spFirstWrongT d) := by
  refine F.ok scFirstWrong (fun vs H Q E h => ?_) (fun cdv A outer s H vs Q E hr h => ?_)
  · obtain ⟨v, pv, ok, wi, rs, p, rfl, _⟩ := h
    rfl
  obtain ⟨v, pv, ok, wi, rs, p, rfl, ⟨a, kd, xs, rfl, oka, ha, _, hxs⟩, ⟨pa, rfl, hpa⟩, hpl, q⟩ := h
  refine ⟨_, (pss_cons (ps_for PassesOwn.never rfl (pi_enumQ (by rfl) B.enumerate (pa_cons (pv 0) pa_nil)) (pg_tup (by rfl) (pgs_cons (pg_name (i := 3) scFirstWrong.nd rfl (by first | exact Or.inl rfl | exact Or.inr rfl)) (pgs_cons (pg_name (i := 4) scFirstWrong.nd rfl (by first | exact Or.inl rfl | exact Or.inr rfl)) pgs_nil))) (pss_cons (ps_set (i := 5) scFirstWrong.nd rfl (by first | exact Or.inl rfl | exact Or.inr rfl) (pe_mid (pe_op op_catA (pv 1) (pe_tup (pa_cons (pv 3) pa_nil)))))
      (pss_cons (ps_if (pt_not (pt_val (pe_own gIsRow (hr.mono (by omega)) (by rfl) (pa_cons (pv 4) (pa_cons (pv 2) pa_nil))))) (pss_one (ps_ret (pv 5))) pss_nil)
      (pss_one (ps_for PassesOwn.never rfl (pi_enumQ (by rfl) B.enumerate (pa_cons (pe_own gBlocksOf (hr.mono (by omega)) (by rfl) (pa_cons (pv 4) pa_nil)) pa_nil)) (pg_tup (by rfl) (pgs_cons (pg_name (i := 6) scFirstWrong.nd rfl (by first | exact Or.inl rfl | exact Or.inr rfl)) (pgs_cons (pg_name (i := 7) scFirstWrong.nd rfl (by first | exact Or.inl rfl | exact Or.inr rfl)) pgs_nil))) (pss_cons (ps_set (i := 8) scFirstWrong.nd rfl (by first | exact Or.inl rfl | exact Or.inr rfl) (pe_own gFirstWrong (hr.mono (by omega)) (by rfl) (pa_cons (pv 7) (pa_cons (pe_mid (pe_op op_catA (pv 5) (pe_tup (pa_cons (pv 6) pa_nil)))) (pa_cons (pe_mid (pe_or (pv 2) (pe_one (pe_cmpR op_eq (pe_ix ix_seq (pv 4) pe_int (fun _ _ => rfl)) pe_str (nomark _))))) pa_nil)))))
      (pss_one (ps_if (pt_cmpR op_notN (pv 8) pe_non (nomark _)) (pss_one (ps_ret (pv 8))) pss_nil))))))))
      (pss_one (ps_ret pe_non))), ?_⟩
  refine ⟨_, rfl, a, kd, xs, rfl, sq_of ha, ?_⟩
  refine for_it walk_enumQ (fun i σ H' => (rs.zipIdx.take i).findSome? (firstT d wi p) = none ∧ Same H H' ∧ ∃ v3 v4 v5 v6 v7 v8, σ = [some (.ref a), some (.ref pa), some (.bl wi), v3, v4, v5, v6, v7, v8])
    ⟨rfl, Same.refl H, none, none, none, none, none, none, rfl⟩ (fun i σ H' _ ⟨_, sm, _⟩ => sq_of (sm _ _ ha)) ?_ ?_
  · rintro i x σ H1 H2 hi ⟨hno, sm, v3, v4, v5, v6, v7, v8, rfl⟩ ⟨T, x1, x2, rfl, nT, rfl, e1, e2⟩
    have e1' : x1 = .int (i : Nat) := (Option.some.inj e1).symm
    subst e1'
    obtain ⟨r, hr', hrow⟩ := paired_get hxs e2
    have ez : rs.zipIdx[i]? = some (r, i) := by rw [List.getElem?_zipIdx, hr']; simp
    have eR := firstT_eq d wi p r i
    have found : ∀ {y}, firstT d wi p (r, i) = some y → firstLT d wi p rs = some y := fun {y} h => by
      unfold firstLT
      have e : rs.zipIdx = rs.zipIdx.take i ++ (r, i) :: rs.zipIdx.drop (i + 1) := by
        have h1 := List.take_append_drop i rs.zipIdx
        rw [List.drop_eq_getElem_cons (by exact (List.getElem?_eq_some_iff.mp ez).1)] at h1
        rw [(List.getElem?_eq_some_iff.mp ez).2] at h1
        exact h1.symm
      rw [e, List.findSome?_append, hno, List.findSome?_cons, h]
      rfl
    have go : firstT d wi p (r, i) = none → (rs.zipIdx.take (i + 1)).findSome? (firstT d wi p) = none := fun h => by
      rw [List.take_add_one, ez, List.findSome?_append, hno]
      show List.findSome? (firstT d wi p) [(r, i)] = none
      rw [List.findSome?_cons, h]
      rfl
    have s2 : Same H (upd H1 T (.tup [.int (i : Nat), x2])) := Same.trans sm (Same.new nT)
    refine ⟨T, _, rfl, SqT.of upd_same, rfl, _, _, rfl, _, _, rfl, rfl, ?_⟩
    generalize hG : upd H1 T _ = G at *
    -- here = path + (k,)
    refine ⟨fun v H' => ∃ b, v = .ref b ∧ H' b = some (.tup ((p ++ [(i : Int)]).map V.int)) ∧ Same G H', ?_, ?_⟩
    · refine ⟨_, rfl, _, rfl, (by show 1 ≤ sizeLine; decide), fun t1 nt1 => ?_⟩
      refine ⟨pa, t1, p.map V.int, [.int (i : Nat)], rfl, rfl, SqT.of (Same.new nt1 _ _ (s2 _ _ hpa)), SqT.of upd_same, smallE (by rw [List.length_map]; simp; omega), fun e => ?_, fun _ e => (nomatch e), fun _ _ t2 nt2 => ?_⟩
      · have ep : p = [] := List.map_eq_nil_iff.mp e
        subst ep
        exact ⟨t1, rfl, upd_same, Same.new nt1⟩
      · exact ⟨t2, rfl, by rw [upd_same, List.map_append]; rfl, Same.trans (Same.new nt1) (Same.new nt2)⟩
    rintro hv G1 ⟨hb, rfl, hhb, s3⟩
    have s4 : Same H G1 := Same.trans s2 s3
    have hrow1 : ThAt ok G1 (2 * d + 1) x2 r := hrow.to (KeepT.same s4)
    refine ⟨_, rfl, _, rfl, ?_⟩
    dsimp only [tNil]
    refine isRow_th hrow1 fun G2 s5 => ⟨_, rfl, ?_⟩
    have s6 : Same H G2 := Same.trans s4 s5
    cases hbad : rowT wi r with
    | false =>
      rw [if_neg (by rw [hbad]; exact Bool.false_ne_true)] at eR
      have := found eR
      rw [this] at q
      exact iteT ⟨_, rfl, q _ s6 _ ⟨hb, rfl, s5 _ _ hhb⟩⟩
    | true =>
    rw [if_pos hbad] at eR
    refine iteF ?_
    have hrow2 : ThAt ok G2 (2 * d + 1) x2 r := hrow1.to (KeepT.same s5)
    refine ⟨_, rfl, x2, ok, 2 * d, r, rfl, hrow2, rowT_weak hbad, fun G3 bl ys s7 nb hbl hys => ?_⟩
    obtain ⟨ra, rkd, z, rest, us, fs, rfl, _, hra, rfl, hf, lus, lrest, few, _, _, _⟩ := rowTh_of hbad hrow1
    have lb : ys.length ≤ 3 := by rw [paired_len hys]; exact blksT_few hf few
    refine ⟨bl, true, ys, rfl, sq_of hbl, ?_⟩
    generalize hR : (Th.sq (.at (.str z) :: us)) = r at *
    have ew : wordOf r = z := by rw [← hR]; rfl
    rw [ew] at eR
    refine for_it walk_enumQ (fun j σ H' => ((blksT r).zipIdx.take j).findSome? (firstBT d (wi || decide (z = "make")) p i) = none ∧ Same G3 H' ∧ ∃ v6 v7 v8, σ = [some (.ref a), some (.ref pa), some (.bl wi), some (.int (i : Nat)), some (.ref ra), some (.ref hb), v6, v7, v8])
      ⟨rfl, Same.refl _, v6, v7, v8, rfl⟩ (fun j σ H' _ ⟨_, sm, _⟩ => sq_of (kd := true) (sm _ _ hbl)) ?_ ?_
    · rintro j y σ H3 H4 hj ⟨hnb, sm4, w6, w7, w8, rfl⟩ ⟨T2, y1, y2, rfl, nT2, rfl, f1, f2⟩
      have f1' : y1 = .int (j : Nat) := (Option.some.inj f1).symm
      subst f1'
      obtain ⟨b, hb', hblk⟩ := paired_get hys f2
      cases d with
      | zero => exact hblk.elim
      | succ e =>
      have eF := hF e rfl
      subst eF
      have s8 : Same G3 (upd H3 T2 (.tup [.int (j : Nat), y2])) := Same.trans sm4 (Same.new nT2)
      refine ⟨T2, _, rfl, SqT.of upd_same, rfl, _, _, rfl, _, _, rfl, rfl, ?_⟩
      generalize hG4 : upd H3 T2 _ = G4 at *
      have s9 : Same G1 G4 := Same.trans s5 (Same.trans s7 s8)
      have hhb4 : G4 hb = some (.tup ((p ++ [(i : Int)]).map V.int)) := s9 _ _ hhb
      have ezb : (blksT r).zipIdx[j]? = some (b, j) := by rw [List.getElem?_zipIdx, hb']; simp
      refine ⟨_, rfl, fun v H' => ∃ c, v = .ref c ∧ H' c = some (.tup ((p ++ [(i : Int)] ++ [(j : Int)]).map V.int)) ∧ Same G4 H', ?_, ?_⟩
      · refine ⟨_, rfl, _, rfl, (by show 1 ≤ sizeLine; decide), fun t1 nt1 => ?_⟩
        refine ⟨hb, t1, _, [.int (j : Nat)], rfl, rfl, SqT.of (Same.new nt1 _ _ hhb4), SqT.of upd_same, smallE (by rw [List.length_map]; simp; omega), fun e => (by simp at e), fun _ e => (nomatch e), fun _ _ t2 nt2 => ?_⟩
        exact ⟨t2, rfl, by rw [upd_same, List.map_append (l₁ := p ++ [(i : Int)])]; rfl, Same.trans (Same.new nt1) (Same.new nt2)⟩
      rintro cv G5 ⟨c, rfl, hc, s10⟩
      have s11 : Same G2 G5 := Same.trans s7 (Same.trans s8 s10)
      refine ⟨fun v H' => v = .bl (wi || decide (z = "make")) ∧ G5 = H', ?_, ?_⟩
      · refine ⟨_, rfl, wi, rfl, ?_⟩
        cases wi with
        | true => exact iteT ⟨rfl, rfl⟩
        | false =>
          have hra5 := Same.trans s5 s11 _ _ hra
          refine iteF ⟨_, rfl, rIx_seq (sq_of hra5) (atI_nat (j := 0) rfl) ⟨rfl, ?_, rfl⟩⟩
          rw [Bool.false_or]
          have : (V.str z = V.str "make") ↔ (z = "make") := ⟨fun e => V.str.inj e, fun e => by rw [e]⟩
          rw [decide_eq_decide.mpr this]
      rintro _ _ ⟨rfl, rfl⟩
      have hrows5 : ThAt ok G5 (2 * e + 2) y2 (.sq b) := hblk.to (KeepT.same s11)
      have eB : firstBT (e + 1) (wi || decide (z = "make")) p i (b, j) = firstLT e (wi || decide (z = "make")) (p ++ [(i : Int)] ++ [(j : Int)]) b := by
        show firstLT e _ (p ++ [(i : Int), (j : Int)]) b = _
        rw [List.append_assoc]
        rfl
      refine ⟨y2, .ref c, ok, _, b, p ++ [(i : Int)] ++ [(j : Int)], rfl, hrows5, ⟨c, rfl, hc⟩, by simp; omega, fun G6 s12 x hx => ?_⟩
      have s16 := Same.trans s8 (Same.trans s10 s12)
      rw [← eB] at hx
      cases hf : firstBT (e + 1) (wi || decide (z = "make")) p i (b, j) with
      | some y =>
        rw [hf] at hx
        obtain ⟨xa, rfl, hxa⟩ := hx
        have : (blksT r).zipIdx.findSome? (firstBT (e + 1) (wi || decide (z = "make")) p i) = some y := by
          have e : (blksT r).zipIdx = (blksT r).zipIdx.take j ++ (b, j) :: (blksT r).zipIdx.drop (j + 1) := by
            have h1 := List.take_append_drop j (blksT r).zipIdx
            rw [List.drop_eq_getElem_cons (by exact (List.getElem?_eq_some_iff.mp ezb).1)] at h1
            rw [(List.getElem?_eq_some_iff.mp ezb).2] at h1
            exact h1.symm
          rw [e, List.findSome?_append, hnb, List.findSome?_cons, hf]
          rfl
        have h2 := found (eR.trans this)
        rw [h2] at q
        exact ⟨_, rfl, rfl, _, rfl, iteT ⟨_, rfl, q _ (Same.trans s6 (Same.trans s7 s16)) _ ⟨xa, rfl, hxa⟩⟩⟩
      | none =>
        rw [hf] at hx
        obtain rfl : x = .non := hx
        refine ⟨_, rfl, rfl, _, rfl, iteF ⟨?_, s16, _, _, _, rfl⟩⟩
        rw [List.take_add_one, ezb, List.findSome?_append, hnb]
        show List.findSome? _ [(b, j)] = none
        rw [List.findSome?_cons, hf]
        rfl
    · rintro σ H3 ⟨hnb, sm4, w6, w7, w8, rfl⟩
      rw [List.take_of_length_le (by rw [List.length_zipIdx, paired_len hys]; exact Nat.le_refl _)] at hnb
      exact ⟨go (eR.trans hnb), Same.trans s6 (Same.trans s7 sm4), _, _, _, _, _, _, rfl⟩
  · rintro σ H1 ⟨hno, sm, v3, v4, v5, v6, v7, v8, rfl⟩
    rw [List.take_of_length_le (by rw [List.length_zipIdx, paired_len hxs]; exact Nat.le_refl _)] at hno
    have hno : firstLT d wi p rs = none := hno
    rw [hno] at q
    exact q _ sm _ rfl
theorem firstWrongT_ok {f : Addr} {fd : FuncData} (F : Fun K "first_wrong" "first_wrong" sFirstWrong f fd) (B : Bl mg) (m : mg "first_wrong" = some (.ref f)) (b : Binds K fd ["rows", "path", "is_within"] []) (gIsRow : Own P w K mg base 4 "is_row" ["thing", "is_within"] (spIsRow K)) (gBlocksOf : Own P w K mg base 1 "blocks_of" ["row"] spBlocksT) :
    ∀ d : Nat, Own P w K mg base (5 + d) "first_wrong" ["rows", "path", "is_within"] (spFirstWrongT d)
  | 0 => own_mk F m b (ok_FirstWrongT (k := 4) F B (by omega) gIsRow gBlocksOf (own_mk F m b fn_false) (fun e h => absurd h (by omega)))
  | d + 1 => own_mk F m b (ok_FirstWrongT (k := 5 + d) F B (by omega) gIsRow gBlocksOf (firstWrongT_ok F B m b gIsRow gBlocksOf d) (fun e h => by
      have : d = e := by omega
      rw [this]))
end
end Ft
set_option Elab.async false
set_option linter.all false
set_option maxRecDepth 100000
set_option maxHeartbeats 4000000
set_option Elab.async false
set_option linter.all false
set_option maxRecDepth 100000
set_option maxHeartbeats 4000000
namespace Ft
open PySem L2
def tupK : Bool → Bool → Prop := fun _ b => b = false
theorem FlAt.to {ok ok' : Addr → Prop} {kk : Bool → Bool → Prop} {H H' : Hp} {d : Nat} {v : V} {f : Fl} (h : FlAt ok kk H d v f) (t : Keep ok ok' H H') : FlAt ok' kk H' d v f := by
  cases f with
  | «at» x => exact h
  | blk b =>
    obtain ⟨e, he, hr⟩ := h
    exact ⟨e, he, hr.to t⟩
section
variable {P : Program} {w : World} {K : PySem.W.Frag} {mg : Str → Option Value} {base : Heap}
abbrev sFrozen : Stmt := topS 19
theorem scFrozen : FnScope ["rows", "found", "row", "parts", "field", "part"] ["rows"] (defScope sFrozen) := ⟨rfl, rfl, rfl, by decide +kernel, rfl, by decide +kernel, by decide +kernel⟩
def spFrozen (d : Nat) : Sp := fun vs H Q _ => ∃ (v : V) (ok : Addr → Prop) (kk : Bool → Bool → Prop) (wi : Bool) (rs : List Row), vs = [v] ∧ RowsAt ok kk H d v rs ∧ rs.length ≤ 24 ∧ (∀ r ∈ rs, RowOk d wi r) ∧
  ∀ H' v', Same H H' → RowsAt (fun x => H x = none) tupK H' d v' rs → Q v' H'
theorem ok_Frozen {f dF : Addr} {fd : FuncData} {k d : Nat} {spF : Sp} (F : Fun K "frozen" "frozen" sFrozen f fd) (B : Bl mg) (TF : FldT K w mg dF)
    (gFrozen : Own P w K mg base k "frozen" ["rows"] spF) (hF : ∀ e, d = e + 1 → spF = spFrozen e) : FnOk P w K mg base CX0 (k + 1) f fd ["rows"] (spFrozen d) := by
  obtain ⟨es, nn, D⟩ := TF.dict
  refine F.ok scFrozen (fun vs H Q E h => ?_) (fun cdv A outer s H vs Q E hr h => ?_)
  · obtain ⟨v, ok, kk, wi, rs, rfl, _⟩ := h
    rfl
  obtain ⟨v, ok, kk, wi, rs, rfl, ⟨xs, ⟨a, kd, rfl, oka, kka, ha⟩, hxs⟩, hlen, hok, q⟩ := h
  refine ⟨_, (pss_cons (ps_set (i := 1) scFrozen.nd rfl (by first | exact Or.inl rfl | exact Or.inr rfl) (pe_lst pa_nil))
      (pss_cons (ps_for PassesOwn.never rfl (pi_seq (pv 0)) (pg_name (i := 2) scFrozen.nd rfl (by first | exact Or.inl rfl | exact Or.inr rfl)) (pss_cons (ps_setLc (i := 3) (own := [("field", 4), ("part", 5)]) (g := (gTup _ 2 (gCons (gName 4) (gCons (gName 5) gNil)))) (tt := tYes) (by rfl) scFrozen.nd rfl rfl (sw_true rfl rfl rfl (by decide +kernel)) (pi_zipQ (by rfl) B.zip (pa_cons (pe_ix ix_kdict (pe_glob (v := .ref dF) (by rfl) TF.g rfl) (pe_ix ix_seq (pv 2) pe_int (fun _ _ => rfl)) (fun _ _ => rfl)) (pa_cons (pe_slice sl_seq (pv 2) (po_some pe_int) po_none) pa_nil))) (blkOk_by (own := [("field", 4), ("part", 5)]) (N := ["rows", "found", "row", "parts", "field", "part"]) (sc := defScope sFrozen) (by decide +kernel)) (fun _ _ _ _ _ => (pg_tup (by rfl) (pgs_cons (pg_name (i := 4) scFrozen.nd rfl (by first | exact Or.inl rfl | exact Or.inr rfl)) (pgs_cons (pg_name (i := 5) scFrozen.nd rfl (by first | exact Or.inl rfl | exact Or.inr rfl)) pgs_nil)))) (fun _ _ _ _ _ => pts_nil) (fun _ _ _ _ _ => (pe_ifExp (pt_cmpR op_eq (pv 4) pe_str (nomark _)) (pe_own gFrozen (hr.mono (by omega)) (by rfl) (pa_cons (pv 5) pa_nil)) (pv 5))))
      (pss_one (ps_expr (pe_bm PySem.F.plainAttrs_list PySem.F.slot_list_append PySem.F.type_list_append mt_append (pv 1) (pa_cons (pe_op op_catA (pe_tup (pa_cons (pe_ix ix_seq (pv 2) pe_int (fun _ _ => rfl)) pa_nil)) (pe_callTy call_tuple_of (by rfl) B.tuple (by decide +kernel) (pa_cons (pv 3) pa_nil))) pa_nil))))))
      (pss_one (ps_ret (pe_callTy call_tuple_of (by rfl) B.tuple (by decide +kernel) (pa_cons (pv 1) pa_nil)))))), ?_⟩
  refine ⟨Nat.zero_le _, fun l nl => ?_⟩
  have s0 : Same H (upd H l (.lst [])) := Same.new nl
  refine ⟨_, rfl, a, kd, xs, rfl, sq_of (s0 _ _ ha), ?_⟩
  refine for_it walk_seq (fun i σ H' => Same H H' ∧ (∃ v2 v3 v4 v5, σ = [some (.ref a), some (.ref l), v2, v3, v4, v5]) ∧ ∃ zs, H' l = some (.lst zs) ∧ Paired (RowAt (fun x => H x = none ∧ x ≠ l) tupK H' d) zs (rs.take i))
    ⟨s0, ⟨none, none, none, none, rfl⟩, [], upd_same, .nil⟩ (fun i σ H' _ ⟨sm, _⟩ => sq_of (sm _ _ ha)) ?_ ?_
  · rintro i x σ H1 H2 hi ⟨sm, ⟨v2, v3, v4, v5, rfl⟩, zs, hl, hzs⟩ ⟨rfl, hx⟩
    obtain ⟨r, hr', hrow⟩ := paired_get hxs hx
    have rok := hok r (List.mem_of_getElem? hr')
    have rf := rowF_of rok
    have few := rf.few
    have hrow1 : RowAt ok kk H2 d x r := hrow.to (Keep.fr (Fr.same sm) fun _ k => k)
    obtain ⟨rest, ⟨ra, rkd, rfl, roka, rkka, hra⟩, hrest⟩ := rowV_of rok hrow1
    have lr : rest.length = (flds r).length := paired_len hrest
    have hfs := fieldsOf_some rf.names
    obtain ⟨tA, hn, htA⟩ := TF.val _ hfs
    have ix : ∀ {Q' : VK}, Q' (.str (rowWord r)) H2 → rIx K (.ref ra) (.int 0) H2 Q' := fun h => rIx_seq (sq_of hra) (atI_nat (j := 0) rfl) h
    refine ⟨_, rfl, ix ⟨dF, rowWord r, .ref tA, rfl, rfl, ⟨es, nn, .ref tA, D.at_, D.lit, hn, rfl⟩, ?_⟩⟩
    refine ⟨_, rfl, 1, rfl, rSl1 hra fun p G smG np hp => ?_⟩
    have hlG : G l = some (.lst zs) := smG _ _ hl
    refine ⟨tA, p, false, rkd, _, rest, rfl, htA G, sq_of hp, fun L nL => ?_⟩
    have nLH : H L = none := Same.free (Same.trans sm smG) nL
    have Ll : L ≠ l := fun e => by rw [e, hlG] at nL; cases nL
    refine lc_it (walk_zipQ (n := (flds r).length) (by rw [List.length_map, List.length_map]; omega)) (fun i H' => Same G H' ∧ ∃ ys, H' L = some (.lst ys) ∧ Paired (fun x (f : Str × Fl) => FlAt (fun x => H x = none ∧ x ≠ l ∧ x ≠ L) tupK H' d x f.2) ys ((flds r).take i))
      ⟨Same.new nL, [], upd_same, .nil⟩ (fun i H' _ ⟨s4, _⟩ => ⟨htA H', sq_of (s4 _ _ hp)⟩) ?_ ?_
    · rintro i2 y H3 H4 hi2 ⟨s4, ys, hL, hys⟩ ⟨T, x1, x2, rfl, nT, rfl, e1, e2⟩
      obtain ⟨ff, hff, hx2⟩ := paired_get hrest e2
      obtain rfl : x1 = .str ff.1 := by
        have e1' : (((flds r).map (·.1)).map V.str)[i2]? = some x1 := e1
        rw [List.getElem?_map, List.getElem?_map, hff] at e1'
        exact (Option.some.inj e1').symm
      have fok := rf.ok ff (List.mem_of_getElem? hff)
      have s5 : Same G (upd H3 T (.tup [.str ff.1, x2])) := Same.trans s4 (Same.new nT)
      have nLT : L ≠ T := ne_of_none hL nT
      have hL2 : (upd H3 T (.tup [.str ff.1, x2])) L = some (.lst ys) := by rw [upd_ne nLT]; exact hL
      have et : (flds r).take (i2 + 1) = (flds r).take i2 ++ [ff] := by rw [List.take_add_one, hff]; rfl
      have ly : ys.length ≤ 3 := by rw [paired_len hys, List.length_take]; omega
      have hys2 : ∀ {H5 : Hp} {z : V}, Same (upd H3 T (.tup [.str ff.1, x2])) H5 → Paired (fun x (f : Str × Fl) => FlAt (fun x => H x = none ∧ x ≠ l ∧ x ≠ L) tupK (upd H5 L (.lst (ys ++ [z]))) d x f.2) ys ((flds r).take i2) := fun {H5 z} s6 =>
        paired_imp hys fun v f h => h.to fun x kd zs k e => ⟨k, by rw [upd_ne k.2.2]; exact s6 _ _ (Same.new nT _ _ e)⟩
      refine ⟨T, _, rfl, SqT.of upd_same, rfl, _, _, rfl, _, _, rfl, rfl, rfl, ?_⟩
      refine ⟨_, rfl, rfl, _, rfl, ite2 (fun c => ?_) (fun c => ?_)⟩
      · have ec : ff.1 = "block" := V.str.inj (of_decide_eq_true c)
        cases hfl : ff.2 with
        | «at» v =>
          rw [hfl] at fok
          rcases fok with ⟨h, _⟩ | ⟨h, _⟩
          · rw [ec] at h; exact absurd h (by decide)
          · rw [ec] at h; exact absurd h (by decide)
        | blk b =>
          rw [hfl] at hx2 fok
          obtain ⟨e, rfl, hrows⟩ := hx2
          obtain ⟨_, e', he', h8, hr8⟩ := fok
          have : e = e' := Nat.succ.inj he'
          subst this
          have eF := hF e rfl
          subst eF
          have s2G : Same H2 (upd H3 T (.tup [.str ff.1, x2])) := Same.trans smG s5
          refine ⟨_, rfl, x2, ok, kk, _, b, rfl, hrows.to (Keep.fr (Fr.same s2G) fun _ k => k), by omega, hr8, fun H5 v' s6 hv' => ?_⟩
          refine ⟨ys, s6 _ _ hL2, small (by omega), Same.upN (Same.trans s5 s6) nL, ys ++ [v'], upd_same, ?_⟩
          rw [et]
          refine paired_app ?_ (hys2 s6)
          show FlAt _ tupK _ _ v' ff.2
          rw [hfl]
          refine ⟨e, rfl, hv'.to fun x kd zs k e => ?_⟩
          have xL : x ≠ L := fun z => by rw [z, hL2] at k; cases k
          have xl : x ≠ l := fun z => by rw [z, s5 _ _ hlG] at k; cases k
          exact ⟨⟨Same.free (Same.trans sm (Same.trans smG s5)) k, xl, xL⟩, by rw [upd_ne xL]; exact e⟩
      · have ec : ff.1 ≠ "block" := fun h => c (by rw [h]; exact decide_eq_true rfl)
        cases hfl : ff.2 with
        | blk b =>
          rw [hfl] at fok
          exact absurd fok.1 ec
        | «at» v =>
          rw [hfl] at hx2
          refine ⟨_, rfl, ys, hL2, small (by omega), Same.upN s5 nL, ys ++ [x2], upd_same, ?_⟩
          rw [et]
          refine paired_app ?_ (hys2 (Same.refl _))
          show FlAt _ tupK _ _ x2 ff.2
          rw [hfl]
          exact hx2
    · rintro H3 ⟨s4, ys, hL, hys⟩
      rw [List.take_length] at hys
      have ly : ys.length = (flds r).length := paired_len hys
      have one := rf.one
      have hra3 : H3 ra = some (mkO rkd (.str (rowWord r) :: rest)) := s4 _ _ (smG _ _ hra)
      have hl3 : H3 l = some (.lst zs) := s4 _ _ hlG
      -- found.append((row[0],) + tuple(parts))
      refine ⟨_, rfl, .inl ⟨rfl, _, SqL.of hl3⟩, ?_⟩
      refine ⟨_, rfl, rIx_seq (sq_of hra3) (atI_nat (j := 0) rfl) ⟨(by show 1 ≤ sizeLine; decide), fun t1 nt1 => ?_⟩⟩
      have hL4 : (upd H3 t1 (.tup [.str (rowWord r)])) L = some (.lst ys) := Same.new nt1 _ _ hL
      refine ⟨_, rfl, L, ys, rfl, .inl ⟨SqL.of hL4, fun t2 nt2 => ?_⟩⟩
      have ht1 : (upd (upd H3 t1 (.tup [.str (rowWord r)])) t2 (.tup ys)) t1 = some (.tup [.str (rowWord r)]) := Same.new nt2 _ _ upd_same
      have yne : ys ≠ [] := fun e => by rw [e] at ly; simp at ly; omega
      refine ⟨t1, t2, _, ys, rfl, rfl, SqT.of ht1, SqT.of upd_same, smallE (by simp; omega), fun e => (nomatch e), fun _ e => absurd e yne, fun _ _ t3 nt3 => ?_⟩
      have s6 : Same H3 (upd (upd (upd H3 t1 (.tup [.str (rowWord r)])) t2 (.tup ys)) t3 (.tup ([.str (rowWord r)] ++ ys))) := Same.trans (Same.new nt1) (Same.trans (Same.new nt2) (Same.new nt3))
      have h3 : (upd (upd (upd H3 t1 (.tup [.str (rowWord r)])) t2 (.tup ys)) t3 (.tup ([.str (rowWord r)] ++ ys))) t3 = some (.tup (.str (rowWord r) :: ys)) := upd_same
      have n3 : H3 t3 = none := Same.free (Same.trans (Same.new nt1) (Same.new nt2)) nt3
      generalize hG6 : upd (upd (upd H3 t1 _) t2 _) t3 _ = G6 at *
      have sH6 : Same H G6 := Same.trans sm (Same.trans smG (Same.trans s4 s6))
      have lz : zs.length ≤ 24 := by rw [paired_len hzs, List.length_take]; omega
      have n3H : H t3 = none := Same.free (Same.trans sm (Same.trans smG s4)) n3
      have t3l : t3 ≠ l := fun e => by rw [e, hl3] at n3; cases n3
      refine ⟨l, zs, _, rfl, rfl, s6 _ _ hl3, small (by omega), Same.upN sH6 nl, ⟨_, _, _, _, rfl⟩, zs ++ [.ref t3], upd_same, ?_⟩
      have et : rs.take (i + 1) = rs.take i ++ [r] := by rw [List.take_add_one, hr']; rfl
      rw [et]
      refine paired_app ?_ (paired_imp hzs fun v r h => h.to fun x kd ws k e => ⟨k, by rw [upd_ne k.2]; exact s6 _ _ (s4 _ _ (smG _ _ e))⟩)
      refine rowAt_of rok ⟨t3, false, rfl, ⟨n3H, t3l⟩, rfl, by rw [upd_ne t3l]; exact h3⟩ (paired_imp hys fun v f h => h.to fun x kd ws k e => ⟨⟨k.1, k.2.1⟩, by rw [upd_ne k.2.1]; exact s6 _ _ e⟩)
  · rintro σ H1 ⟨sm, ⟨v2, v3, v4, v5, rfl⟩, zs, hl, hzs⟩
    rw [paired_len hxs, List.take_length] at hzs
    refine ⟨_, rfl, l, zs, rfl, .inl ⟨SqL.of hl, fun t nt => ?_⟩⟩
    refine q _ _ (Same.trans sm (Same.new nt)) ⟨zs, ⟨t, false, rfl, Same.free sm nt, rfl, upd_same⟩, paired_imp hzs fun v r h => h.to fun x kd ws k e => ⟨k.1, Same.new nt _ _ e⟩⟩
theorem frozen_ok {f dF : Addr} {fd : FuncData} (F : Fun K "frozen" "frozen" sFrozen f fd) (B : Bl mg) (TF : FldT K w mg dF) (m : mg "frozen" = some (.ref f)) (b : Binds K fd ["rows"] []) :
    ∀ d : Nat, Own P w K mg base (1 + d) "frozen" ["rows"] (spFrozen d)
  | 0 => own_mk F m b (ok_Frozen (k := 0) F B TF (own_mk F m b fn_false) (fun e h => absurd h (by omega)))
  | d + 1 => own_mk F m b (ok_Frozen (k := 1 + d) F B TF (frozen_ok F B TF m b d) (fun e h => by
      have : d = e := by omega
      rw [this]))
end
end Ft
set_option Elab.async false
set_option linter.all false
set_option maxRecDepth 100000
set_option maxHeartbeats 4000000
namespace Ft
open PySem L2
def rowW : Nat → List Int → Row × Nat → List (List Int × Row)
  | 0, path, p => [(path ++ [(p.2 : Int)], p.1)]
  | d + 1, path, p => (path ++ [(p.2 : Int)], p.1) :: (blocks p.1).zipIdx.flatMap fun q => q.1.zipIdx.flatMap (rowW d (path ++ [(p.2 : Int), (q.2 : Int)]))
def walkL (d : Nat) (path : List Int) (rs : List Row) : List (List Int × Row) := rs.zipIdx.flatMap (rowW d path)
/-- what the block q of the row i gives -/
def blkW (d : Nat) (path : List Int) (i : Nat) (q : List Row × Nat) : List (List Int × Row) := match d with
  | 0 => []
  | e + 1 => walkL e (path ++ [(i : Int), (q.2 : Int)]) q.1
theorem rowW_eq {d : Nat} {wi : Bool} {r : Row} (h : RowOk d wi r) (path : List Int) (i : Nat) : rowW d path (r, i) = (path ++ [(i : Int)], r) :: (blocks r).zipIdx.flatMap (blkW d path i) := by
  cases d with
  | zero =>
    cases r with
    | plain w fs => rfl
    | _ => exact h.elim
  | succ d => rfl
def cW : Nat → Nat
  | 0 => 1
  | d + 1 => 1 + 48 * cW d
theorem flat_len {α β : Type} {f : α → List β} {c : Nat} : ∀ {l : List α}, (∀ x ∈ l, (f x).length ≤ c) → (l.flatMap f).length ≤ l.length * c
  | [], _ => by simp
  | x :: l, h => by
    rw [List.flatMap_cons, List.length_append, List.length_cons, Nat.succ_mul]
    have h1 := h x (by simp)
    have h2 := flat_len (l := l) fun y hy => h y (by simp [hy])
    omega
theorem mem_zipIdx_fst {α : Type} {l : List α} {p : α × Nat} (h : p ∈ l.zipIdx) : p.1 ∈ l := by
  obtain ⟨x, i⟩ := p
  exact (List.mem_zipIdx' h).2 ▸ List.getElem_mem _
theorem blk_ok {d : Nat} {wi : Bool} {r : Row} (h : RowOk d wi r) {b : List Row} (hb : b ∈ blocks r) : ∃ e, d = e + 1 ∧ b.length ≤ 24 ∧ ∀ r' ∈ b, RowOk e (wi || decide (rowWord r = "make")) r' := by
  have rf := rowF_of h
  rw [rf.blk] at hb
  obtain ⟨ff, hff, eff⟩ := List.mem_filterMap.mp hb
  have fok := rf.ok ff hff
  cases hfl : ff.2 with
  | «at» v => rw [hfl] at eff; cases eff
  | blk b2 =>
    rw [hfl] at eff fok
    have e2 : b2 = b := Option.some.inj eff
    subst e2
    exact fok.2
theorem blocks_len {d : Nat} {wi : Bool} {r : Row} (h : RowOk d wi r) : (blocks r).length ≤ 2 := by cases r <;> simp [blocks]
theorem rowW_len : ∀ {d : Nat} {wi : Bool} {r : Row}, RowOk d wi r → ∀ (path : List Int) (i : Nat), (rowW d path (r, i)).length ≤ cW d := by
  intro d
  induction d with
  | zero => intro wi r _ path i; exact Nat.le_refl 1
  | succ d ih =>
    intro wi r h path i
    have b3 := blocks_len h
    show (_ :: _ : List (List Int × Row)).length ≤ 1 + 48 * cW d
    rw [List.length_cons]
    have : ((blocks r).zipIdx.flatMap fun q => q.1.zipIdx.flatMap (rowW d (path ++ [(i : Int), (q.2 : Int)]))).length ≤ (blocks r).zipIdx.length * (24 * cW d) := flat_len fun q hq => by
      obtain ⟨e, he, h8, hr⟩ := blk_ok h (mem_zipIdx_fst hq)
      have : d = e := Nat.succ.inj he
      subst this
      have h1 : (q.1.zipIdx.flatMap (rowW d (path ++ [(i : Int), (q.2 : Int)]))).length ≤ q.1.zipIdx.length * cW d := flat_len fun p hp => by
        obtain ⟨r', j⟩ := p
        exact ih (hr r' (mem_zipIdx_fst hp)) _ _
      rw [List.length_zipIdx] at h1
      exact Nat.le_trans h1 (Nat.mul_le_mul_right _ h8)
    rw [List.length_zipIdx] at this
    have h2 : (blocks r).length * (24 * cW d) ≤ 2 * (24 * cW d) := Nat.mul_le_mul_right _ b3
    exact Nat.le_trans (Nat.succ_le_succ (Nat.le_trans this h2)) (by omega)
theorem walkL_len {d n : Nat} {wi : Bool} {rs : List Row} (hl : rs.length ≤ n) (h : ∀ r ∈ rs, RowOk d wi r) (path : List Int) : (walkL d path rs).length ≤ n * cW d := by
  have h1 : (walkL d path rs).length ≤ rs.zipIdx.length * cW d := flat_len fun p hp => by
    obtain ⟨r, i⟩ := p
    exact rowW_len (h r (mem_zipIdx_fst hp)) _ _
  rw [List.length_zipIdx] at h1
  exact Nat.le_trans h1 (Nat.mul_le_mul_right _ hl)
/-- a pair of a path and a row -/
def WAt (ok : Addr → Prop) (kk : Bool → Bool → Prop) (H : Hp) (d : Nat) (v : V) (q : List Int × Row) : Prop := ∃ T pv rv, v = .ref T ∧ H T = some (.tup [pv, rv]) ∧ PathAt H pv q.1 ∧ RowAt ok kk H d rv q.2
structure KT (ok ok' : Addr → Prop) (H H' : Hp) : Prop where
  k : Keep ok ok' H H'
  t : ∀ b xs, H b = some (.tup xs) → H' b = some (.tup xs)
theorem PathAt.to {H H' : Hp} {v : V} {p : List Int} (h : PathAt H v p) (t : ∀ b xs, H b = some (.tup xs) → H' b = some (.tup xs)) : PathAt H' v p := by
  obtain ⟨a, e, h⟩ := h
  exact ⟨a, e, t _ _ h⟩
theorem WAt.to {ok ok' : Addr → Prop} {kk : Bool → Bool → Prop} {H H' : Hp} {d : Nat} {v : V} {q : List Int × Row} (h : WAt ok kk H d v q) (t : KT ok ok' H H') : WAt ok' kk H' d v q := by
  obtain ⟨T, pv, rv, e, hT, hp, hr⟩ := h
  exact ⟨T, pv, rv, e, t.t _ _ hT, hp.to t.t, hr.to t.k⟩
theorem KT.same {ok : Addr → Prop} {H H' : Hp} (s : Same H H') : KT ok ok H H' := ⟨Keep.fr (Fr.same s) fun _ k => k, fun b xs e => s _ _ e⟩
theorem KT.lst {ok ok' : Addr → Prop} {H : Hp} {l : Addr} {xs ys : List V} (hl : H l = some (.lst xs)) (h : ∀ x, ok x → x ≠ l) (h' : ∀ x, ok x → ok' x) : KT ok ok' H (upd H l (.lst ys)) :=
  ⟨fun x kd zs k e => ⟨h' x k, by rw [upd_ne (h x k)]; exact e⟩, fun b zs e => by
    rw [upd_ne (fun z => by rw [z, hl] at e; cases e)]; exact e⟩
theorem KT.trans {o1 o2 o3 : Addr → Prop} {H1 H2 H3 : Hp} (a : KT o1 o2 H1 H2) (b : KT o2 o3 H2 H3) : KT o1 o3 H1 H3 := ⟨a.k.trans b.k, fun x xs e => b.t _ _ (a.t _ _ e)⟩
theorem paired_cat {α β : Type} {R : α → β → Prop} : ∀ {xs : List α} {ys : List β} {xs' : List α} {ys' : List β}, Paired R xs ys → Paired R xs' ys' → Paired R (xs ++ xs') (ys ++ ys')
  | _, _, _, _, .nil, h => h
  | _, _, _, _, .cons r t, h => .cons r (paired_cat t h)
section
variable {P : Program} {w : World} {K : PySem.W.Frag} {mg : Str → Option Value} {base : Heap}
abbrev sWalked : Stmt := topS 20
theorem scWalked : FnScope ["rows", "path", "found", "k", "row", "b", "block"] ["rows", "path"] (defScope sWalked) := ⟨rfl, rfl, rfl, by decide +kernel, rfl, by decide +kernel, by decide +kernel⟩
def spWalked (d : Nat) : Sp := fun vs H Q _ => ∃ (v pv : V) (ok : Addr → Prop) (kk : Bool → Bool → Prop) (wi : Bool) (rs : List Row) (p : List Int), vs = [v, pv] ∧ RowsAt ok kk H d v rs ∧ rs.length ≤ 24 ∧ (∀ r ∈ rs, RowOk d wi r) ∧ d ≤ 3 ∧ PathAt H pv p ∧ p.length + 2 * d ≤ 100 ∧
  ∀ H' l zs, Same H H' → H l = none → H' l = some (.lst zs) → Paired (WAt ok kk H' d) zs (walkL d p rs) → Q (.ref l) H'
theorem ok_Walked {f : Addr} {fd : FuncData} {k d : Nat} {spF : Sp} (F : Fun K "walked" "walked" sWalked f fd) (B : Bl mg) (hk : 1 ≤ k) (gBlocksOf : Own P w K mg base 1 "blocks_of" ["row"] spBlocksOf)
    (gWalked : Own P w K mg base k "walked" ["rows", "path"] spF) (hF : ∀ e, d = e + 1 → spF = spWalked e) : FnOk P w K mg base CX0 (k + 1) f fd ["rows", "path"] (spWalked d) := by
  refine F.ok scWalked (fun vs H Q E h => ?_) (fun cdv A outer s H vs Q E hr h => ?_)
  · obtain ⟨v, pv, ok, kk, wi, rs, p, rfl, _⟩ := h
    rfl
  obtain ⟨v, pv, ok, kk, wi, rs, p, rfl, hrs, hlen, hok, hd3, ⟨pa, rfl, hpa⟩, hpl, q⟩ := h
  refine ⟨_, (pss_cons (ps_set (i := 2) scWalked.nd rfl (by first | exact Or.inl rfl | exact Or.inr rfl) (pe_lst pa_nil))
      (pss_cons (ps_for PassesOwn.never rfl (pi_enumQ (by rfl) B.enumerate (pa_cons (pv 0) pa_nil)) (pg_tup (by rfl) (pgs_cons (pg_name (i := 3) scWalked.nd rfl (by first | exact Or.inl rfl | exact Or.inr rfl)) (pgs_cons (pg_name (i := 4) scWalked.nd rfl (by first | exact Or.inl rfl | exact Or.inr rfl)) pgs_nil))) (pss_cons (ps_expr (pe_bm PySem.F.plainAttrs_list PySem.F.slot_list_append PySem.F.type_list_append mt_append (pv 2) (pa_cons (pe_tup (pa_cons (pe_mid (pe_op op_catA (pv 1) (pe_tup (pa_cons (pv 3) pa_nil)))) (pa_cons (pv 4) pa_nil))) pa_nil)))
      (pss_one (ps_for PassesOwn.never rfl (pi_enumQ (by rfl) B.enumerate (pa_cons (pe_own gBlocksOf (hr.mono (by omega)) (by rfl) (pa_cons (pv 4) pa_nil)) pa_nil)) (pg_tup (by rfl) (pgs_cons (pg_name (i := 5) scWalked.nd rfl (by first | exact Or.inl rfl | exact Or.inr rfl)) (pgs_cons (pg_name (i := 6) scWalked.nd rfl (by first | exact Or.inl rfl | exact Or.inr rfl)) pgs_nil))) (pss_one (ps_expr (pe_bm PySem.F.plainAttrs_list PySem.F.slot_list_extend PySem.F.type_list_extend mt_extend (pv 2) (pa_cons (pe_own gWalked (hr.mono (by omega)) (by rfl) (pa_cons (pv 6) (pa_cons (pe_mid (pe_op op_catA (pv 1) (pe_tup (pa_cons (pv 3) (pa_cons (pv 5) pa_nil))))) pa_nil))) pa_nil))))))))
      (pss_one (ps_ret (pv 2))))), ?_⟩
  have c3 : cW d ≤ 112945 := by
    have : cW 3 = 112945 := by decide
    have h4 : d = 0 ∨ d = 1 ∨ d = 2 ∨ d = 3 := by omega
    rcases h4 with e | e | e | e <;> subst e <;> decide
  refine ⟨Nat.zero_le _, fun l nl => ?_⟩
  have s0 : Same H (upd H l (.lst [])) := Same.new nl
  have hrs2 : RowsAt (fun x => ok x ∧ x ≠ l) kk H d v rs := hrs.to (Keep.mono fun x k hx => ⟨k, fun e => hx (by rw [e]; exact nl)⟩)
  obtain ⟨xs, ⟨a, kd, rfl, oka, kka, ha⟩, hxs⟩ := hrs2
  refine ⟨_, rfl, a, kd, xs, rfl, sq_of (s0 _ _ ha), ?_⟩
  refine for_it walk_enumQ (fun i σ H' => Same H H' ∧ (∃ v3 v4 v5 v6, σ = [some (.ref a), some (.ref pa), some (.ref l), v3, v4, v5, v6]) ∧ ∃ zs, H' l = some (.lst zs) ∧ Paired (WAt (fun x => ok x ∧ x ≠ l) kk H' d) zs ((rs.zipIdx.take i).flatMap (rowW d p)))
    ⟨s0, ⟨none, none, none, none, rfl⟩, [], upd_same, .nil⟩ (fun i σ H' _ ⟨sm, _⟩ => sq_of (sm _ _ ha)) ?_ ?_
  · rintro i x σ H1 H2 hi ⟨sm, ⟨v3, v4, v5, v6, rfl⟩, zs, hl, hzs⟩ ⟨T, x1, x2, rfl, nT, rfl, e1, e2⟩
    have e1' : x1 = .int (i : Nat) := (Option.some.inj e1).symm
    subst e1'
    obtain ⟨r, hr', hrow⟩ := paired_get hxs e2
    have rok := hok r (List.mem_of_getElem? hr')
    have b3 := blocks_len rok
    have s2 : Same H1 (upd H1 T (.tup [.int (i : Nat), x2])) := Same.new nT
    refine ⟨T, _, rfl, SqT.of upd_same, rfl, _, _, rfl, _, _, rfl, rfl, ?_⟩
    have lz : zs.length ≤ 24 * cW d := by
      rw [paired_len hzs]
      have h1 : ((rs.zipIdx.take i).flatMap (rowW d p)).length ≤ (rs.zipIdx.take i).length * cW d := flat_len fun q hq => by
        obtain ⟨r', j⟩ := q
        exact rowW_len (hok r' (mem_zipIdx_fst (List.mem_of_mem_take hq))) _ _
      have h2 : (rs.zipIdx.take i).length ≤ 24 := by rw [List.length_take, List.length_zipIdx]; omega
      exact Nat.le_trans h1 (Nat.mul_le_mul_right _ h2)
    generalize hG : upd H1 T _ = G at *
    have sG : Same H G := Same.trans sm s2
    have hlG : G l = some (.lst zs) := s2 _ _ hl
    have hzsG := paired_imp hzs fun v q h => WAt.to h (KT.same s2)
    -- found.append((path + (k,), row))
    refine ⟨_, rfl, .inl ⟨rfl, _, SqL.of hlG⟩, ⟨fun v H' => ∃ b, v = .ref b ∧ H' b = some (.tup ((p ++ [(i : Int)]).map V.int)) ∧ Same G H', ?_, ?_⟩⟩
    · refine ⟨_, rfl, _, rfl, (by show 1 ≤ sizeLine; decide), fun t1 nt1 => ?_⟩
      refine ⟨pa, t1, p.map V.int, [.int (i : Nat)], rfl, rfl, SqT.of (Same.new nt1 _ _ (sG _ _ hpa)), SqT.of upd_same, smallE (by rw [List.length_map]; simp; omega), fun e => ?_, fun _ e => (nomatch e), fun _ _ t2 nt2 => ?_⟩
      · have ep : p = [] := List.map_eq_nil_iff.mp e
        subst ep
        exact ⟨t1, rfl, upd_same, Same.new nt1⟩
      · exact ⟨t2, rfl, by rw [upd_same, List.map_append]; rfl, Same.trans (Same.new nt1) (Same.new nt2)⟩
    rintro hv G1 ⟨hb, rfl, hhb, s3⟩
    refine ⟨_, rfl, (by show 2 ≤ sizeLine; decide), fun t3 nt3 => ?_⟩
    have s4 : Same G (upd G1 t3 (.tup [.ref hb, x2])) := Same.trans s3 (Same.new nt3)
    have hhb4 : (upd G1 t3 (.tup [.ref hb, x2])) hb = some (.tup ((p ++ [(i : Int)]).map V.int)) := Same.new nt3 _ _ hhb
    have ht3 : (upd G1 t3 (.tup [.ref hb, x2])) t3 = some (.tup [.ref hb, x2]) := upd_same
    generalize hG2 : upd G1 t3 _ = G2 at *
    have sG2 : Same H G2 := Same.trans sG s4
    have hl2 : G2 l = some (.lst zs) := s4 _ _ hlG
    refine ⟨l, zs, _, rfl, rfl, hl2, big (by omega), ?_⟩
    have kt2 : KT (fun x => ok x ∧ x ≠ l) (fun x => ok x ∧ x ≠ l) G2 (upd G2 l (.lst (zs ++ [.ref t3]))) := KT.lst hl2 (fun x k => k.2) fun x k => k
    have w3 : WAt (fun x => ok x ∧ x ≠ l) kk G2 d (.ref t3) (p ++ [(i : Int)], r) := ⟨t3, _, _, rfl, ht3, ⟨hb, rfl, hhb4⟩, hrow.to (Keep.fr (Fr.same sG2) fun _ k => k)⟩
    have hzs3 : Paired (WAt (fun x => ok x ∧ x ≠ l) kk (upd G2 l (.lst (zs ++ [.ref t3]))) d) (zs ++ [.ref t3]) ((rs.zipIdx.take i).flatMap (rowW d p) ++ [(p ++ [(i : Int)], r)]) :=
      paired_app (w3.to kt2) (paired_imp hzsG fun v q h => (h.to (KT.same s4)).to kt2)
    have hl3 : (upd G2 l (.lst (zs ++ [.ref t3]))) l = some (.lst (zs ++ [.ref t3])) := upd_same
    have sG3 : Same H (upd G2 l (.lst (zs ++ [.ref t3]))) := Same.upN sG2 nl
    generalize hG3 : upd G2 l _ = G3 at *
    -- the blocks
    have hrow3 : RowAt (fun x => ok x ∧ x ≠ l) kk G3 d x2 r := hrow.to (Keep.fr (Fr.same sG3) fun _ k => k)
    refine ⟨_, rfl, x2, (fun x => ok x ∧ x ≠ l), kk, d, wi, r, rfl, rok, hrow3, fun G4 bl ys s5 nb hbl hys => ?_⟩
    have lb : ys.length ≤ 2 := by rw [paired_len hys]; exact b3
    have lbl : bl ≠ l := fun e => by rw [e, hl3] at nb; cases nb
    refine ⟨bl, true, ys, rfl, sq_of hbl, ?_⟩
    have sG4 : Same H G4 := Same.trans sG3 s5
    refine for_it walk_enumQ (fun j σ H' => Same H H' ∧ H' bl = some (.lst ys) ∧ (∀ b xs, G3 b = some (.tup xs) → H' b = some (.tup xs)) ∧ (∃ v5 v6, σ = [some (.ref a), some (.ref pa), some (.ref l), some (.int (i : Nat)), some x2, v5, v6]) ∧
        ∃ zs, H' l = some (.lst zs) ∧ Paired (WAt (fun x => ok x ∧ x ≠ l) kk H' d) zs ((rs.zipIdx.take i).flatMap (rowW d p) ++ [(p ++ [(i : Int)], r)] ++ ((blocks r).zipIdx.take j).flatMap (blkW d p i)) ∧ Keep (fun x => ok x ∧ x ≠ l) (fun x => ok x ∧ x ≠ l) G3 H')
      ⟨sG4, hbl, fun b xs e => s5 _ _ e, ⟨v5, v6, rfl⟩, zs ++ [.ref t3], s5 _ _ hl3, ?_, Keep.fr (Fr.same s5) fun _ k => k⟩ (fun j σ H' _ ⟨_, h, _⟩ => sq_of (kd := true) h) ?_ ?_
    · rw [List.take_zero, List.flatMap_nil, List.append_nil]
      exact paired_imp hzs3 fun v q h => h.to (KT.same s5)
    · rintro j y σ H3 H4 hj ⟨sm4, hbl4, htup4, ⟨w5, w6, rfl⟩, zs4, hl4, hzs4, kp4⟩ ⟨T2, y1, y2, rfl, nT2, rfl, f1, f2⟩
      have f1' : y1 = .int (j : Nat) := (Option.some.inj f1).symm
      subst f1'
      obtain ⟨b, hb', e, rfl, hrows⟩ := paired_get hys f2
      have eF := hF e rfl
      subst eF
      obtain ⟨e', he', h8, hr8⟩ := blk_ok rok (List.mem_of_getElem? hb')
      have ee : e = e' := Nat.succ.inj he'
      subst ee
      have s6 : Same H3 (upd H3 T2 (.tup [.int (j : Nat), y2])) := Same.new nT2
      refine ⟨T2, _, rfl, SqT.of upd_same, rfl, _, _, rfl, _, _, rfl, rfl, ?_⟩
      generalize hG5 : upd H3 T2 _ = G5 at *
      have hl5 : G5 l = some (.lst zs4) := s6 _ _ hl4
      have sH5 : Same H G5 := Same.trans sm4 s6
      refine ⟨_, rfl, .inl ⟨rfl, _, SqL.of hl5⟩, _, rfl, ⟨fun v H' => ∃ c, v = .ref c ∧ H' c = some (.tup ((p ++ [(i : Int), (j : Int)]).map V.int)) ∧ Same G5 H', ?_, ?_⟩⟩
      · refine ⟨_, rfl, _, rfl, _, rfl, (by show 2 ≤ sizeLine; decide), fun t1 nt1 => ?_⟩
        refine ⟨pa, t1, p.map V.int, [.int (i : Nat), .int (j : Nat)], rfl, rfl, SqT.of (Same.new nt1 _ _ (sH5 _ _ hpa)), SqT.of upd_same, smallE (by rw [List.length_map]; simp; omega), fun e => ?_, fun _ e => (nomatch e), fun _ _ t2 nt2 => ?_⟩
        · have ep : p = [] := List.map_eq_nil_iff.mp e
          subst ep
          exact ⟨t1, rfl, upd_same, Same.new nt1⟩
        · exact ⟨t2, rfl, by rw [upd_same, List.map_append]; rfl, Same.trans (Same.new nt1) (Same.new nt2)⟩
      rintro cv G6 ⟨c, rfl, hc, s7⟩
      have s36 : Same H3 G6 := Same.trans s6 s7
      have hrows6 : RowsAt (fun x => ok x ∧ x ≠ l) kk G6 e y2 b := hrows.to (kp4.trans (Keep.fr (Fr.same s36) fun _ k => k))
      refine ⟨y2, .ref c, (fun x => ok x ∧ x ≠ l), kk, _, b, p ++ [(i : Int), (j : Int)], rfl, hrows6, by omega, hr8, by omega, ⟨c, rfl, hc⟩, by simp; omega, fun G7 l2 zs2 s8 nl2 hl2' hzs2 => ?_⟩
      have hl7 : G7 l = some (.lst zs4) := s8 _ _ (s7 _ _ hl5)
      have s37 : Same H3 G7 := Same.trans s36 s8
      have ce : 8 * cW e ≤ 8 * cW (e + 1) := by
        have : cW (e + 1) = 1 + 48 * cW e := rfl
        omega
      have lz2 : zs2.length ≤ 24 * cW e := by rw [paired_len hzs2]; exact walkL_len h8 hr8 _
      have lz4 : zs4.length ≤ 24 * cW (e + 1) + 1 + 2 * (24 * cW e) := by
        rw [paired_len hzs4, List.length_append, List.length_append, List.length_singleton]
        have h1 : ((rs.zipIdx.take i).flatMap (rowW (e + 1) p)).length ≤ 24 * cW (e + 1) := by rw [← paired_len hzs]; exact lz
        have h2 : (((blocks r).zipIdx.take j).flatMap (blkW (e + 1) p i)).length ≤ ((blocks r).zipIdx.take j).length * (24 * cW e) := flat_len fun q hq => by
          obtain ⟨e2, he2, h82, hr82⟩ := blk_ok rok (mem_zipIdx_fst (List.mem_of_mem_take hq))
          have ee2 : e = e2 := Nat.succ.inj he2
          subst ee2
          exact walkL_len h82 hr82 _
        have h3 : ((blocks r).zipIdx.take j).length ≤ 2 := by rw [List.length_take, List.length_zipIdx]; omega
        have h4 := Nat.mul_le_mul_right (24 * cW e) h3
        omega
      refine ⟨l, l2, zs4, zs2, rfl, rfl, hl7, hl2', bigE (by omega), ?_⟩
      have kt7 : KT (fun x => ok x ∧ x ≠ l) (fun x => ok x ∧ x ≠ l) G7 (upd G7 l (.lst (zs4 ++ zs2))) := KT.lst hl7 (fun x k => k.2) fun x k => k
      refine ⟨Same.upN (Same.trans sm4 s37) nl, ?_, fun b xs e => kt7.t _ _ (s37 _ _ (htup4 _ _ e)), ⟨_, _, rfl⟩, zs4 ++ zs2, upd_same, ?_, (kp4.trans (Keep.fr (Fr.same s37) fun _ k => k)).trans kt7.k⟩
      · rw [upd_ne lbl]
        exact s37 _ _ hbl4
      · have ez : (blocks r).zipIdx[j]? = some (b, j) := by rw [List.getElem?_zipIdx, hb']; simp
        rw [List.take_add_one, ez, List.flatMap_append, ← List.append_assoc]
        refine paired_cat (paired_imp hzs4 fun v q h => (h.to (KT.same s37)).to kt7) ?_
        rw [show ((some (b, j) : Option (List Row × Nat)).toList.flatMap (blkW (e + 1) p i)) = walkL e (p ++ [(i : Int), (j : Int)]) b by
          show List.flatMap (blkW (e + 1) p i) [(b, j)] = _
          rw [List.flatMap_cons, List.flatMap_nil, List.append_nil]
          rfl]
        exact paired_imp hzs2 fun v q h => by
          obtain ⟨T', pv', rv', e1', e2', e3', e4'⟩ := h
          exact (show WAt (fun x => ok x ∧ x ≠ l) kk G7 (e + 1) v q from ⟨T', pv', rv', e1', e2', e3', rowAt_mono _ _ _ e4'⟩).to kt7
    · rintro σ H3 ⟨sm4, hbl4, htup4, ⟨w5, w6, rfl⟩, zs4, hl4, hzs4, kp4⟩
      refine ⟨sm4, ⟨_, _, _, _, rfl⟩, zs4, hl4, ?_⟩
      have ly : ys.length = (blocks r).length := paired_len hys
      have ez : rs.zipIdx[i]? = some (r, i) := by rw [List.getElem?_zipIdx, hr']; simp
      rw [List.take_add_one, ez, List.flatMap_append]
      rw [show ((some (r, i) : Option (Row × Nat)).toList.flatMap (rowW d p)) = (p ++ [(i : Int)], r) :: (blocks r).zipIdx.flatMap (blkW d p i) by
        show List.flatMap (rowW d p) [(r, i)] = _
        rw [List.flatMap_cons, List.flatMap_nil, List.append_nil, rowW_eq rok]]
      have et : (blocks r).zipIdx.take ys.length = (blocks r).zipIdx := List.take_of_length_le (by rw [List.length_zipIdx]; omega)
      rw [et, List.append_assoc] at hzs4
      exact hzs4
  · rintro σ H1 ⟨sm, ⟨v3, v4, v5, v6, rfl⟩, zs, hl, hzs⟩
    have et : rs.zipIdx.take xs.length = rs.zipIdx := List.take_of_length_le (by rw [List.length_zipIdx, paired_len hxs]; omega)
    rw [et] at hzs
    exact ⟨_, rfl, q _ l zs sm nl hl (paired_imp hzs fun v q h => h.to ⟨Keep.mono fun x k _ => k.1, fun b xs e => e⟩)⟩
theorem walked_ok {f : Addr} {fd : FuncData} (F : Fun K "walked" "walked" sWalked f fd) (B : Bl mg) (m : mg "walked" = some (.ref f)) (b : Binds K fd ["rows", "path"] []) (gBlocksOf : Own P w K mg base 1 "blocks_of" ["row"] spBlocksOf) :
    ∀ d : Nat, Own P w K mg base (2 + d) "walked" ["rows", "path"] (spWalked d)
  | 0 => own_mk F m b (ok_Walked (k := 1) F B (by omega) gBlocksOf (own_mk F m b fn_false) (fun e h => absurd h (by omega)))
  | d + 1 => own_mk F m b (ok_Walked (k := 2 + d) F B (by omega) gBlocksOf (walked_ok F B m b gBlocksOf d) (fun e h => by
      have : d = e := by omega
      rw [this]))
end
end Ft
set_option Elab.async false
set_option linter.all false
set_option maxRecDepth 100000
set_option maxHeartbeats 4000000
namespace Ft
open PySem L2
theorem dc_it {J : It} {n : Nat} {G : Hp → Prop} {Y : Nat → Hp → V → Hp → Prop} (w : Walk J n G Y) {g : TG} {tt : TT} {tk tv : TE} {vs : List Nat} {σ : L2.St} {H1 : Hp} {D : Addr} {Qd : Hp → Prop} (Pv : Nat → Hp → Prop) (h0 : Pv 0 (upd H1 D (.dK []))) (hG : ∀ i H, i ≤ n → Pv i H → G H)
    (hs : ∀ i x H H', i < n → Pv i H → Y i H x H' → g x (wipe σ vs) H' fun σ2 H2 => wipe σ2 vs = wipe σ vs ∧ tt σ2 H2 fun b H3 =>
      if b = true then tk σ2 H3 fun y H4 => tv σ2 H4 fun z H5 => ∃ kvs k, y = kV k ∧ H5 D = some (.dK kvs) ∧ kvs.length < sizeLine ∧ Pv (i + 1) (upd H5 D (.dK (putK kvs k z))) else Pv (i + 1) H3) (hd : ∀ H, Pv n H → Qd H) :
    ∃ W : Nat → Nat → Hp → Prop, (∃ m, W 0 m (upd H1 D (.dK []))) ∧ ∀ i m H, W i m H →
      (J.stop i H ∧ Qd H) ∨ (J.go i H ∧ ∃ Nx : Hp → Prop, (∀ H', Nx H' → ∃ m', m' < m ∧ W (i + 1) m' H') ∧ ∀ x H', J.yld i H x H' → g x (wipe σ vs) H' fun σ2 H2 => wipe σ2 vs = wipe σ vs ∧ tt σ2 H2 fun b H3 =>
        if b = true then tk σ2 H3 fun y H4 => tv σ2 H4 fun z H5 => ∃ kvs k, y = kV k ∧ H5 D = some (.dK kvs) ∧ kvs.length < sizeLine ∧ Nx (upd H5 D (.dK (putK kvs k z))) else Nx H3) := by
  refine ⟨fun i m H => m = n - i ∧ i ≤ n ∧ Pv i H, ⟨n, by simp, Nat.zero_le _, h0⟩, ?_⟩
  rintro i m H ⟨rfl, hi, p⟩
  have q := hG i H hi p
  by_cases hlt : i < n
  · refine .inr ⟨w.goes i H hlt q, Pv (i + 1), fun H' p' => ⟨n - (i + 1), by omega, rfl, hlt, p'⟩, fun x H' y => hs i x H H' hlt p (w.yields i H x H' hlt q y)⟩
  · have e : i = n := by omega
    subst e
    exact .inl ⟨w.stops H q, hd H p⟩
def isImp (r : Row) : Bool := decide (rowWord r = "load") || decide (rowWord r = "pick")
def spotsM (m : Str × List Row) : List (Str × List Int) := ((walkL 3 [] m.2).filter fun q => isImp q.2).map fun q => (m.1, q.1)
def spotsL (lib : Lib) : List (Str × List Int) := lib.flatMap spotsM
def SpotAt (H : Hp) (v : V) (q : Str × List Int) : Prop := ∃ T pv, v = .ref T ∧ H T = some (.tup [.str q.1, pv]) ∧ PathAt H pv q.2
theorem SpotAt.to {H H' : Hp} {v : V} {q : Str × List Int} (h : SpotAt H v q) (t : ∀ b xs, H b = some (.tup xs) → H' b = some (.tup xs)) : SpotAt H' v q := by
  obtain ⟨T, pv, e, hT, hp⟩ := h
  exact ⟨T, pv, e, t _ _ hT, hp.to t⟩
theorem lib_perm {ys ks : List Str} (h : ys.Perm ks) : ∀ lib : Lib, lib.map (·.1) = ks → ∃ rest : Lib, rest.map (·.1) = ys ∧ rest.Perm lib := by
  induction h with
  | nil => intro lib e; exact ⟨[], rfl, by rw [List.map_eq_nil_iff.mp e]⟩
  | cons x h ih =>
    intro lib e
    cases lib with
    | nil => cases e
    | cons m lib =>
      rw [List.map_cons] at e
      obtain ⟨rest, h1, h2⟩ := ih lib (List.cons.inj e).2
      exact ⟨m :: rest, by rw [List.map_cons, h1, (List.cons.inj e).1], h2.cons m⟩
  | swap x y l =>
    intro lib e
    cases lib with
    | nil => cases e
    | cons m lib =>
      cases lib with
      | nil => cases (List.cons.inj e).2
      | cons m2 lib =>
        rw [List.map_cons, List.map_cons] at e
        have e1 := (List.cons.inj e).1
        have e2 := (List.cons.inj (List.cons.inj e).2).1
        have e3 := (List.cons.inj (List.cons.inj e).2).2
        exact ⟨m2 :: m :: lib, by rw [List.map_cons, List.map_cons, e1, e2, e3], List.Perm.swap m m2 lib⟩
  | trans _ _ ih1 ih2 =>
    intro lib e
    obtain ⟨r2, h3, h4⟩ := ih2 lib e
    obtain ⟨r1, h5, h6⟩ := ih1 r2 h3
    exact ⟨r1, h5, h6.trans h4⟩
theorem libR_perm {lib lib' : Lib} (h : lib'.Perm lib) (l : LibR lib) : LibR lib' where
  few := by rw [h.length_eq]; exact l.few
  pos := by rw [h.length_eq]; exact l.pos
  nd := (h.map (·.1)).nodup_iff.mpr l.nd
  word := fun m hm => l.word m (h.mem_iff.mp hm)
  len := fun m hm => l.len m (h.mem_iff.mp hm)
  rows := fun m hm => l.rows m (h.mem_iff.mp hm)
theorem putL_newL {lib : Lib} {z : Str} {rs : List Row} (h : z ∉ lib.map (·.1)) : putL lib z rs = lib ++ [(z, rs)] := by
  unfold putL
  rw [if_neg]
  intro e
  obtain ⟨m, hm, q⟩ := List.any_eq_true.mp e
  exact h (List.mem_map.mpr ⟨m, hm, of_decide_eq_true q⟩)
theorem valV_at {kvs : List (Key × V)} {i : Nat} {k : Key} {v : V} (hn : (kvs.map (·.1)).Nodup) (h : kvs[i]? = some (k, v)) : valV kvs k = some v := by
  induction kvs generalizing i with
  | nil => simp at h
  | cons kv kvs ih =>
    rw [List.map_cons, List.nodup_cons] at hn
    cases i with
    | zero =>
      have e : kv = (k, v) := Option.some.inj h
      subst e
      unfold valV
      rw [List.find?_cons_of_pos (p := fun kv : Key × V => decide (kv.1 = k)) (by exact decide_eq_true rfl)]
      rfl
    | succ i =>
      have h' : kvs[i]? = some (k, v) := h
      have := ih hn.2 h'
      have ne : ¬ kv.1 = k := fun e => hn.1 (by rw [e]; exact List.mem_map.mpr ⟨_, List.mem_of_getElem? h', rfl⟩)
      unfold valV at this ⊢
      rw [List.find?_cons_of_neg (by rw [decide_eq_false ne]; exact Bool.false_ne_true)]
      exact this
theorem libAt_nd {ok : Addr → Prop} {kk : Bool → Bool → Prop} {H : Hp} {kvs : List (Key × V)} {lib : Lib} (h : LibAt ok kk H kvs lib) (hn : (lib.map (·.1)).Nodup) : (kvs.map (·.1)).Nodup := by
  rw [libAt_keys h]
  have go : ∀ l : List Str, l.Nodup → (l.map (Sum.inr : Str → Key)).Nodup := by
    intro l hl
    induction l with
    | nil => simp
    | cons x l ih =>
      rw [List.nodup_cons] at hl
      rw [List.map_cons, List.nodup_cons]
      refine ⟨fun hm => ?_, ih hl.2⟩
      obtain ⟨y, hy, e⟩ := List.mem_map.mp hm
      rw [Sum.inr.inj e] at hy
      exact hl.1 hy
  exact go _ hn
theorem putF_spots (r v : V) : putF "spots" v [(("rows_of" : Str), r)] = [(("rows_of" : Str), r), ("spots", v)] := by
  unfold putF
  rw [if_neg (by decide)]
  rfl
theorem lk_rows (r v : V) : List.lookup ("rows_of" : Str) [(("rows_of" : Str), r), ("spots", v)] = some r := by simp [List.lookup]
theorem lk_spots (r v : V) : List.lookup ("spots" : Str) [(("rows_of" : Str), r), ("spots", v)] = some v := by
  have : (("spots" : Str) == "rows_of") = false := by decide
  simp [List.lookup, this]
def loadPick : List V := [.str "load", .str "pick"]
theorem inV_imp (r : Row) : inV (.str (rowWord r)) loadPick = isImp r := by
  show (eqV (.str "load") (.str (rowWord r)) || (eqV (.str "pick") (.str (rowWord r)) || false)) = _
  rw [Bool.or_false]
  have h1 : ∀ a b : Str, eqV (.str a) (.str b) = decide (b = a) := fun a b => by
    show (a == b) = _
    by_cases e : b = a
    · rw [e]; simp
    · have e' : ¬ a = b := fun h => e h.symm
      simp [e, e']
  rw [h1, h1]
  rfl
theorem rowAt_head {ok : Addr → Prop} {kk : Bool → Bool → Prop} {H : Hp} {v : V} {r : Row} : ∀ {d : Nat}, RowAt ok kk H d v r → ∃ a kd rest, v = .ref a ∧ kk false kd ∧ H a = some (mkO kd (.str (rowWord r) :: rest)) := by
  intro d h
  have g : ∀ {xs : List V}, At ok (kk false) H v (.str (rowWord r) :: xs) → ∃ a kd rest, v = .ref a ∧ kk false kd ∧ H a = some (mkO kd (.str (rowWord r) :: rest)) := fun h => by
    obtain ⟨a, kd, e, _, k, m⟩ := h
    exact ⟨a, kd, _, e, k, m⟩
  cases d with
  | zero =>
    cases r with
    | plain w fs => exact g h
    | _ => exact h.elim
  | succ d =>
    cases r with
    | plain w fs => exact g h
    | make n b =>
      obtain ⟨vb, xs, h1, _⟩ := h
      exact g h1
    | when n b c =>
      obtain ⟨vb, xs, vc, ys, h1, _⟩ := h
      exact g h1
    | try_ b c =>
      obtain ⟨vb, xs, vc, ys, h1, _⟩ := h
      exact g h1
/-- what is known of the class Program -/
structure PCls (K : PySem.W.Frag) (mg : Str → Option Value) (C : Addr) : Prop where
  g : mg "Program" = some (.ref C)
  cl : Cls K C
  nR : NoAttr K C "rows_of"
  nS : NoAttr K C "spots"
section
variable {P : Program} {w : World} {K : PySem.W.Frag} {mg : Str → Option Value} {base : Heap}
abbrev sProgramInit : Stmt := inClass (topS 28) 0
theorem scProgramInit : FnScope ["self", "modules", "word", "rows", "path", "row"] ["self", "modules"] (defScope sProgramInit) := ⟨rfl, rfl, rfl, by decide +kernel, rfl, by decide +kernel, by decide +kernel⟩
/-- a Program at x: its rows, its places -/
structure ProgAt (ok : Addr → Prop) (H : Hp) (C x dx rd sl : Addr) (lib : Lib) : Prop where
  ins : H x = some (.ins C dx [("rows_of", .ref rd), ("spots", .ref sl)])
  rows : ∃ kvs, H rd = some (.dK kvs) ∧ LibAt ok tupK H kvs lib
  spots : ∃ zs, H sl = some (.lst zs) ∧ Paired (SpotAt H) zs (spotsL lib)
def spProgramInit (C : Addr) : Sp := fun vs H Q _ => ∃ (x dx dm : Addr) (kvs : List (Key × V)) (lib : Lib) (ok : Addr → Prop) (kk : Bool → Bool → Prop), vs = [.ref x, .ref dm] ∧ H x = some (.ins C dx []) ∧ H dm = some (.dK kvs) ∧ LibAt ok kk H kvs lib ∧ ¬ ok x ∧ LibR lib ∧
  ∀ H' rd sl lib2, Fr (· ≠ x) H H' → ProgAt (fun y => H y = none) H' C x dx rd sl lib2 → lib2.Perm lib → PyProof.Rows.sortedS (lib2.map (·.1)) = true → H rd = none → H sl = none → Q .non H'
theorem ok_ProgramInit {f C : Addr} {fd : FuncData} {k : Nat} (F : Fun K "__init__" "Program.__init__" sProgramInit f fd) (B : Bl mg) (PC : PCls K mg C) (hk : 9 ≤ k) (gCheckModules : Own P w K mg base 9 "check_modules" ["modules"] spCheckModules)
    (gFrozen : Own P w K mg base 4 "frozen" ["rows"] (spFrozen 3)) (gWalked : Own P w K mg base 5 "walked" ["rows", "path"] (spWalked 3)) : FnOk P w K mg base CX0 (k + 1) f fd ["self", "modules"] (spProgramInit C) := by
  refine F.ok scProgramInit (fun vs H Q E h => ?_) (fun cdv A outer s H vs Q E hr h => ?_)
  · obtain ⟨x, dx, dm, kvs, lib, ok, kk, rfl, _⟩ := h
    rfl
  obtain ⟨x, dx, dm, kvs, lib, ok, kk, rfl, hx, hdm, hlib, okx, lr, q⟩ := h
  refine ⟨_, (pss_cons (ps_expr (pe_own gCheckModules (hr.mono (by omega)) (by rfl) (pa_cons (pv 1) pa_nil)))
      (pss_cons (ps_fld (pv 0) (pe_dc (own := [("word", 2)]) (g := (gName 2)) (tt := tYes) (by rfl) scProgramInit.nd (pi_list (pe_callB (call_sortedD rfl) (by rfl) B.sorted (by decide +kernel) (pa_cons (pv 1) pa_nil))) (blkOk_by (own := [("word", 2)]) (N := ["self", "modules", "word", "rows", "path", "row"]) (sc := defScope sProgramInit) (by decide +kernel)) (fun _ _ _ _ _ => (pg_name (i := 2) scProgramInit.nd rfl (by first | exact Or.inl rfl | exact Or.inr rfl))) (fun _ _ _ _ _ => pts_nil) (fun _ _ _ _ _ => (pv 2)) (fun _ _ _ _ _ => (pe_own gFrozen (hr.mono (by omega)) (by rfl) (pa_cons (pe_dget (hu_of hr) (pv 1) (pv 2) (fun _ _ => rfl)) pa_nil)))) rfl)
      (pss_cons (ps_fld (pv 0) (pe_lst pa_nil) rfl)
      (pss_one (ps_lock (ps_for PassesOwn.never rfl (pi_keys (pe_fld (pv 0) rfl)) (pg_name (i := 2) scProgramInit.nd rfl (by first | exact Or.inl rfl | exact Or.inr rfl)) (pss_cons (ps_set (i := 3) scProgramInit.nd rfl (by first | exact Or.inl rfl | exact Or.inr rfl) (pe_own gWalked (hr.mono (by omega)) (by rfl) (pa_cons (pe_dget (hu_of hr) (pe_fld (pv 0) rfl) (pv 2) (fun _ _ => rfl)) (pa_cons (pe_tup pa_nil) pa_nil))))
      (pss_one (ps_expr (pe_bm PySem.F.plainAttrs_list PySem.F.slot_list_extend PySem.F.type_list_extend mt_extend (pe_fld (pv 0) rfl) (pa_cons (pe_lc (own := [("path", 4), ("row", 5)]) (g := (gTup _ 2 (gCons (gName 4) (gCons (gName 5) gNil)))) (by rfl) scProgramInit.nd (pi_list (pv 3)) (blkOk_by (own := [("path", 4), ("row", 5)]) (N := ["self", "modules", "word", "rows", "path", "row"]) (sc := defScope sProgramInit) (by decide +kernel)) (fun _ _ _ _ _ => (pg_tup (by rfl) (pgs_cons (pg_name (i := 4) scProgramInit.nd rfl (by first | exact Or.inl rfl | exact Or.inr rfl)) (pgs_cons (pg_name (i := 5) scProgramInit.nd rfl (by first | exact Or.inl rfl | exact Or.inr rfl)) pgs_nil)))) (fun _ _ _ _ _ => (pts_one (pt_cmpR (opK (K := K) (fun K => rIn K false) op_in_seq rfl) (pe_ix (ixK (K := K) rIxT ix_tup rfl) (pv 5) pe_int (fun _ _ => rfl)) (pe_tup (pa_cons pe_str (pa_cons pe_str pa_nil))) (by rfl)))) (fun _ _ _ _ _ => (pe_tup (pa_cons (pv 2) (pa_cons (pv 4) pa_nil))))) pa_nil))))))))))), ?_⟩
  have few := lr.few
  have hkeys := libAt_keys hlib
  refine ⟨_, rfl, dm, kvs, lib, ok, kk, rfl, hdm, hlib, lr, fun H1 s1 => ?_⟩
  have hdm1 : H1 dm = some (.dK kvs) := s1 _ _ hdm
  refine ⟨_, rfl, dm, kvs, lib.map (·.1), rfl, .inl hdm1, hkeys, by rw [List.length_map]; omega, fun ys l0 hperm hsort nl0 => ?_⟩
  have s2 : Same H (upd H1 l0 (.lst (ys.map V.str))) := Same.trans s1 (Same.new nl0)
  have hl0 : (upd H1 l0 (.lst (ys.map V.str))) l0 = some (.lst (ys.map V.str)) := upd_same
  generalize hG : upd H1 l0 _ = G at *
  obtain ⟨lib2, e2, p2⟩ := lib_perm hperm lib rfl
  have lr2 := libR_perm p2 lr
  have lylen : ys.length = lib2.length := by rw [← e2, List.length_map]
  refine ⟨l0, rfl, ⟨_, SqL.of hl0⟩, fun D nD => ?_⟩
  have nDH : H D = none := Same.free s2 nD
  have Dx : D ≠ x := fun e => by rw [e, hx] at nDH; cases nDH
  refine dc_it (walk_list (xs := ys.map V.str)) (fun i H' => Same G H' ∧ ∃ kvs', H' D = some (.dK kvs') ∧ LibAt (fun y => H y = none ∧ y ≠ D) tupK H' kvs' (lib2.take i))
    ⟨Same.new nD, [], upd_same, .nil⟩ (fun i H' _ ⟨sm, _⟩ => SqL.of (sm _ _ hl0)) ?_ ?_
  · rintro i x' H2 H3 hi ⟨s3, kvs', hD, hl⟩ ⟨rfl, hx'⟩
    obtain ⟨⟨z, rs⟩, hm, rfl⟩ : ∃ m : Str × List Row, lib2[i]? = some m ∧ x' = .str m.1 := by
      rw [← e2, List.getElem?_map, List.getElem?_map] at hx'
      cases e : lib2[i]? with
      | none => rw [e] at hx'; cases hx'
      | some m => rw [e] at hx'; exact ⟨m, rfl, (Option.some.inj hx').symm⟩
    have s4 : Same H H3 := Same.trans s2 s3
    have hd3 : H3 dm = some (.dK kvs) := s4 _ _ hdm
    have mem : (z, rs) ∈ lib := p2.mem_iff.mp (List.mem_of_getElem? hm)
    obtain ⟨v, hv, hrows⟩ := libAt_val (hlib.to (Keep.fr (Fr.same s4) fun _ k => k)) lr.nd mem
    have dg : DGet H3 dm (.str z) (some v) := by rw [← hv]; exact DGet.k (k := Sum.inr z) hd3
    refine ⟨rfl, ?_⟩
    refine ⟨_, rfl, _, rfl, _, rfl, dm, v, rfl, dg, v, ok, kk, false, rs, rfl, hrows, lr.len _ mem, lr.rows _ mem, fun H5 v' s5 hv' => ?_⟩
    have hD5 : H5 D = some (.dK kvs') := s5 _ _ hD
    have lk : kvs'.length ≤ 8 := by rw [libAt_len hl, List.length_take]; have := lr2.few; omega
    refine ⟨kvs', Sum.inr z, rfl, hD5, big (by omega), Same.upN (Same.trans s3 s5) nD, _, upd_same, ?_⟩
    have nz : z ∉ (lib2.take i).map (·.1) := fun h => by
      have nd := lr2.nd
      obtain ⟨m', hm', e'⟩ := List.mem_map.mp h
      obtain ⟨j, hj, ej⟩ := List.mem_iff_getElem.mp hm'
      rw [List.length_take] at hj
      rw [List.getElem_take] at ej
      have h1 : (lib2.map (·.1))[j]? = some z := by rw [List.getElem?_map, List.getElem?_eq_getElem (by omega), ej]; exact congrArg some e'
      have h2 : (lib2.map (·.1))[i]? = some z := by rw [List.getElem?_map, hm]; rfl
      have := nd_ix nd h1 h2
      omega
    have et : lib2.take (i + 1) = lib2.take i ++ [(z, rs)] := by rw [List.take_add_one, hm]; rfl
    rw [et, ← putL_newL nz]
    refine libAt_put (hl.to fun y kd ws k e => ⟨k, by rw [upd_ne k.2]; exact s5 _ _ e⟩) (hv'.to fun y kd ws k e => ?_)
    have yD : y ≠ D := fun e => by rw [e, hD] at k; cases k
    exact ⟨⟨Same.free s4 k, yD⟩, by rw [upd_ne yD]; exact e⟩
  · rintro H2 ⟨s3, kvs2, hD, hl⟩
    rw [List.length_map, lylen, List.take_length] at hl
    have s4 : Same H H2 := Same.trans s2 s3
    have hx2 : H2 x = some (.ins C dx []) := s4 _ _ hx
    -- self.rows_of = ..
    refine ⟨_, rfl, x, C, dx, [], rfl, hx2, PC.cl, PC.nR, by show 0 < 1000; decide, ?_⟩
    have hx3 : (upd H2 x (.ins C dx (putF "rows_of" (.ref D) []))) x = some (.ins C dx [("rows_of", .ref D)]) := upd_same
    have fr3 : Fr (· ≠ x) H (upd H2 x (.ins C dx (putF "rows_of" (.ref D) []))) := fun b o k e => by rw [upd_ne k]; exact s4 _ _ e
    have hD3 : (upd H2 x (.ins C dx (putF "rows_of" (.ref D) []))) D = some (.dK kvs2) := by rw [upd_ne Dx]; exact hD
    have hl3 : LibAt (fun y => H y = none ∧ y ≠ D) tupK (upd H2 x (.ins C dx (putF "rows_of" (.ref D) []))) kvs2 lib2 := hl.to fun y kd ws k e => ⟨k, by
      rw [upd_ne (fun z => by rw [z, hx] at k; cases k.1)]; exact e⟩
    generalize hG3 : upd H2 x _ = G3 at *
    -- self.spots = []
    refine ⟨Nat.zero_le _, fun sl nsl => ⟨_, rfl, x, C, dx, _, rfl, by rw [upd_ne (fun e => by rw [← e, hx3] at nsl; cases nsl)]; exact hx3, PC.cl, PC.nS, by show 1 < 1000; decide, ?_⟩⟩
    have slx : sl ≠ x := fun e => by rw [e, hx3] at nsl; cases nsl
    have nslH : H sl = none := fr3.free slx nsl
    have slD : sl ≠ D := fun e => by rw [e, hD3] at nsl; cases nsl
    rw [putF_spots]
    have fr4 : Fr (· ≠ x) H (upd (upd G3 sl (.lst [])) x (.ins C dx [("rows_of", .ref D), ("spots", .ref sl)])) := fun b o k e => by
      rw [upd_ne k, upd_ne (ne_of_none (fr3 _ _ k e) nsl)]; exact fr3 _ _ k e
    have hx4 : (upd (upd G3 sl (.lst [])) x (.ins C dx [("rows_of", .ref D), ("spots", .ref sl)])) x = some (.ins C dx [("rows_of", .ref D), ("spots", .ref sl)]) := upd_same
    have hsl4 : (upd (upd G3 sl (.lst [])) x (.ins C dx [("rows_of", .ref D), ("spots", .ref sl)])) sl = some (.lst []) := by rw [upd_ne slx]; exact upd_same
    have hD4 : (upd (upd G3 sl (.lst [])) x (.ins C dx [("rows_of", .ref D), ("spots", .ref sl)])) D = some (.dK kvs2) := by rw [upd_ne Dx, upd_ne slD.symm]; exact hD3
    have hl4 : LibAt (fun y => H y = none ∧ y ≠ D ∧ y ≠ sl) tupK (upd (upd G3 sl (.lst [])) x (.ins C dx [("rows_of", .ref D), ("spots", .ref sl)])) kvs2 lib2 := hl3.to fun y kd ws k e => by
      have yx : y ≠ x := fun z => by rw [z, hx] at k; cases k.1
      have ys : y ≠ sl := ne_of_none e nsl
      exact ⟨⟨k.1, k.2, ys⟩, by rw [upd_ne yx, upd_ne ys]; exact e⟩
    generalize hG4 : upd (upd G3 sl _) x _ = G4 at *
    -- the loop, its dict locked
    refine ⟨D, .dK kvs2, hD4, trivial, fun od => ?_⟩
    have hx5 : (upd G4 D (.frz od (.dK kvs2))) x = some (.ins C dx [("rows_of", .ref D), ("spots", .ref sl)]) := by rw [upd_ne Dx.symm]; exact hx4
    have hsl5 : (upd G4 D (.frz od (.dK kvs2))) sl = some (.lst []) := by rw [upd_ne slD]; exact hsl4
    have hD5 : (upd G4 D (.frz od (.dK kvs2))) D = some (.frz od (.dK kvs2)) := upd_same
    have fr5 : Fr (· ≠ x) H (upd G4 D (.frz od (.dK kvs2))) := fr4.upN nDH
    have hl5 : LibAt (fun y => H y = none ∧ y ≠ D ∧ y ≠ sl) tupK (upd G4 D (.frz od (.dK kvs2))) kvs2 lib2 := hl4.to fun y kd ws k e => ⟨k, by rw [upd_ne k.2.1]; exact e⟩
    generalize hG5 : upd G4 D _ = G5 at *
    refine ⟨_, rfl, x, C, dx, _, _, rfl, hx5, PC.cl, PC.nR, lk_rows _ _, D, od, rfl, .inl ⟨kvs2, hD5, ?_⟩⟩
    have lkv : kvs2.length = lib2.length := libAt_len hl5
    refine for_it walk_keys (fun i σ H' => Fr (· ≠ x) H H' ∧ H' x = some (.ins C dx [("rows_of", .ref D), ("spots", .ref sl)]) ∧ H' D = some (.frz od (.dK kvs2)) ∧ LibAt (fun y => H y = none ∧ y ≠ D ∧ y ≠ sl) tupK H' kvs2 lib2 ∧
        (∃ v2 v3 v4 v5, σ = [some (.ref x), some (.ref dm), v2, v3, v4, v5]) ∧ ∃ zs, H' sl = some (.lst zs) ∧ Paired (SpotAt H') zs ((lib2.take i).flatMap spotsM))
      ⟨fr5, hx5, hD5, hl5, ⟨_, _, _, _, rfl⟩, [], hsl5, .nil⟩ (fun i σ H' _ ⟨_, _, h, _⟩ => h) ?_ ?_
    · rintro i xx σ H6 H7 hi ⟨fr6, hx6, hD6, hl6, ⟨v2, v3, v4, v5, rfl⟩, zs, hs6, hz6⟩ ⟨rfl, kx, vx, hkv, rfl⟩
      obtain ⟨⟨z, rs⟩, hm, hkz, hrows⟩ := paired_get hl6 hkv
      have hkz' : kx = Sum.inr z := hkz
      subst hkz'
      have mem2 := List.mem_of_getElem? hm
      have dg : DGet H7 D (.str z) (some vx) := .inl ⟨kvs2, Sum.inr z, .inr ⟨od, hD6⟩, rfl, (valV_at (libAt_nd hl6 lr2.nd) hkv).symm⟩
      -- rows = walked(self.rows_of[word], ())
      refine ⟨_, rfl, x, C, dx, _, _, rfl, hx6, PC.cl, PC.nR, lk_rows _ _, _, rfl, D, vx, rfl, dg, Nat.zero_le _, fun t0 nt0 => ?_⟩
      have s7 : Same H7 (upd H7 t0 (.tup [])) := Same.new nt0
      refine ⟨vx, .ref t0, (fun y => H y = none ∧ y ≠ D ∧ y ≠ sl), tupK, false, rs, [], rfl, hrows.to (Keep.fr (Fr.same s7) fun _ k => k), lr2.len _ mem2, lr2.rows _ mem2, by omega, ⟨t0, rfl, upd_same⟩, by simp, fun H8 wl ws s8 nwl hwl hws => ?_⟩
      have s78 : Same H7 H8 := Same.trans s7 s8
      have hx8 := s78 _ _ hx6
      have hsl8 := s78 _ _ hs6
      -- self.spots.extend([..])
      refine ⟨_, rfl, x, C, dx, _, _, rfl, hx8, PC.cl, PC.nS, lk_spots _ _, .inl ⟨rfl, _, SqL.of hsl8⟩, ?_⟩
      refine ⟨_, rfl, wl, rfl, ⟨_, SqL.of hwl⟩, fun L nL => ?_⟩
      have lwl : (walkL 3 [] rs).length ≤ 2710680 := by
        have : (walkL 3 [] rs).length ≤ 24 * cW 3 := walkL_len (lr2.len _ mem2) (lr2.rows _ mem2) []
        have c3 : cW 3 = 112945 := by decide
        omega
      have lws : ws.length = (walkL 3 [] rs).length := paired_len hws
      refine lc_it walk_list (fun j H' => Same H8 H' ∧ ∃ us, H' L = some (.lst us) ∧ Paired (SpotAt H') us ((((walkL 3 [] rs).take j).filter fun q => isImp q.2).map fun q => (z, q.1)))
        ⟨Same.new nL, [], upd_same, .nil⟩ (fun j H' _ ⟨sm, _⟩ => SqL.of (sm _ _ hwl)) ?_ ?_
      · rintro j y H9 H10 hj ⟨s9, us, hL, hus⟩ ⟨rfl, hy⟩
        obtain ⟨⟨pp, r⟩, hq, T, pv, rv, rfl, hT, hpv, hrv⟩ := paired_get hws hy
        have hT10 := s9 _ _ hT
        have hpv10 := hpv.to fun b xs e => s9 _ _ e
        have et : (walkL 3 [] rs).take (j + 1) = (walkL 3 [] rs).take j ++ [(pp, r)] := by rw [List.take_add_one, hq]; rfl
        have lus : us.length ≤ 2710680 := by
          rw [paired_len hus, List.length_map]
          exact Nat.le_trans (List.length_filter_le _ _) (by rw [List.length_take]; omega)
        refine ⟨T, _, rfl, SqT.of hT10, rfl, _, _, rfl, _, _, rfl, rfl, rfl, ?_⟩
        -- row[0]
        have hr0 : ∃ ra rest, rv = .ref ra ∧ H10 ra = some (.tup (.str (rowWord r) :: rest)) := by
          obtain ⟨ra, kd, rest, e, hkd, h⟩ := rowAt_head hrv
          have hkd' : kd = false := hkd
          subst hkd'
          exact ⟨ra, rest, e, s9 _ _ h⟩
        obtain ⟨ra, rest, rfl, hra⟩ := hr0
        refine ⟨_, rfl, ra, _, 0, _, rfl, rfl, SqT.of hra, atI_nat (j := 0) rfl, (by show 2 ≤ sizeLine; decide), fun t1 nt1 => ?_⟩
        refine ⟨t1, loadPick, rfl, .inr (SqT.of upd_same), rfl, rfl, _, rfl, ?_⟩
        show if inV (.str (rowWord r)) loadPick = true then _ else _
        rw [inV_imp]
        have hus1 := paired_imp hus fun v q h => SpotAt.to h fun b xs e => Same.new (p := t1) (o := .tup loadPick) nt1 _ _ e
        cases himp : isImp r with
        | false =>
          refine iteF ⟨Same.trans s9 (Same.new nt1), us, Same.new nt1 _ _ hL, ?_⟩
          rw [et, List.filter_append, List.map_append]
          have e0 : List.filter (fun q : List Int × Row => isImp q.2) [(pp, r)] = [] := by
            rw [List.filter_cons_of_neg (by rw [himp]; exact Bool.false_ne_true)]; rfl
          rw [e0, List.map_nil, List.append_nil]
          exact hus1
        | true =>
          refine iteT ⟨_, rfl, _, rfl, (by show 2 ≤ sizeLine; decide), fun t2 nt2 => ?_⟩
          have hL2 : (upd (upd H10 t1 (.tup loadPick)) t2 (.tup [.str z, pv])) L = some (.lst us) := Same.new (o := .tup [.str z, pv]) nt2 _ _ (Same.new (o := .tup loadPick) nt1 _ _ hL)
          refine ⟨us, hL2, big (by omega), Same.upN (Same.trans s9 (Same.trans (Same.new nt1) (Same.new nt2))) nL, us ++ [.ref t2], upd_same, ?_⟩
          rw [et, List.filter_append, List.map_append]
          have e0 : List.filter (fun q : List Int × Row => isImp q.2) [(pp, r)] = [(pp, r)] := by
            rw [List.filter_cons_of_pos (p := fun q : List Int × Row => isImp q.2) (a := (pp, r)) himp]; rfl
          rw [e0]
          have tL : ∀ b xs, (upd (upd H10 t1 (.tup loadPick)) t2 (.tup [.str z, pv])) b = some (.tup xs) → (upd (upd (upd H10 t1 (.tup loadPick)) t2 (.tup [.str z, pv])) L (.lst (us ++ [.ref t2]))) b = some (.tup xs) := fun b xs e => by
            rw [upd_ne (fun q => by rw [q, hL2] at e; cases e)]; exact e
          refine paired_app ?_ (paired_imp hus1 fun v q h => h.to fun b xs e => tL _ _ (Same.new nt2 _ _ e))
          exact SpotAt.to (H := upd (upd H10 t1 (.tup loadPick)) t2 (.tup [.str z, pv])) ⟨t2, pv, rfl, upd_same, hpv10.to fun b xs e => Same.new nt2 _ _ (Same.new nt1 _ _ e)⟩ tL
      · rintro H9 ⟨s9, us, hL, hus⟩
        rw [lws, List.take_length] at hus
        have hsl9 := s9 _ _ hsl8
        have s79 : Same H7 H9 := Same.trans s78 s9
        have lus : us.length ≤ 2710680 := by
          rw [paired_len hus, List.length_map]
          exact Nat.le_trans (List.length_filter_le _ _) lwl
        have lzs : zs.length ≤ 4 * 2710680 := by
          rw [paired_len hz6]
          have h1 : ((lib2.take i).flatMap spotsM).length ≤ (lib2.take i).length * 2710680 := flat_len fun m hm' => by
            have hm2 := List.mem_of_mem_take hm'
            unfold spotsM
            rw [List.length_map]
            refine Nat.le_trans (List.length_filter_le _ _) ?_
            have := walkL_len (lr2.len _ hm2) (lr2.rows _ hm2) []
            have c3 : cW 3 = 112945 := by decide
            omega
          have h2 : (lib2.take i).length ≤ 4 := by rw [List.length_take]; have := lr2.few; omega
          exact Nat.le_trans h1 (Nat.mul_le_mul_right 2710680 h2)
        refine ⟨sl, L, zs, us, rfl, rfl, hsl9, hL, Nat.le_of_lt (Nat.lt_of_le_of_lt (show zs.length + us.length ≤ 15000000 by omega) (by decide)), ?_⟩
        have tS : ∀ b xs, H9 b = some (.tup xs) → (upd H9 sl (.lst (zs ++ us))) b = some (.tup xs) := fun b xs e => by
          rw [upd_ne (fun q => by rw [q, hsl9] at e; cases e)]; exact e
        have et : lib2.take (i + 1) = lib2.take i ++ [(z, rs)] := by rw [List.take_add_one, hm]; rfl
        refine ⟨(fr6.trans (Fr.same s79)).upN nslH, by rw [upd_ne slx.symm]; exact s79 _ _ hx6, by rw [upd_ne slD.symm]; exact s79 _ _ hD6, hl6.to fun y kd ws k e => ⟨k, by rw [upd_ne k.2.2]; exact s79 _ _ e⟩, ⟨_, _, _, _, rfl⟩, zs ++ us, upd_same, ?_⟩
        rw [et, List.flatMap_append]
        refine paired_cat (paired_imp hz6 fun v q h => h.to fun b xs e => tS _ _ (s79 _ _ e)) ?_
        rw [List.flatMap_cons, List.flatMap_nil, List.append_nil]
        exact paired_imp hus fun v q h => h.to tS
    · rintro σ H6 ⟨fr6, hx6, hD6, hl6, ⟨v2, v3, v4, v5, rfl⟩, zs, hs6, hz6⟩
      rw [lkv, List.take_length] at hz6
      refine ⟨hD6, ?_⟩
      have slD' : sl ≠ D := slD
      refine q _ D sl lib2 (fr6.upN nDH) ⟨by rw [upd_ne Dx.symm]; exact hx6, ⟨kvs2, upd_same, hl6.to fun y kd ws k e => ⟨k.1, by rw [upd_ne k.2.1]; exact e⟩⟩, ⟨zs, by rw [upd_ne slD']; exact hs6, paired_imp hz6 fun v q h => h.to fun b xs e => by
        rw [upd_ne (fun z => by rw [z, hD6] at e; cases e)]; exact e⟩⟩ p2 (by rw [e2]; exact hsort) nDH nslH
end
end Ft
set_option Elab.async false
set_option linter.all false
set_option maxRecDepth 100000
set_option maxHeartbeats 4000000
namespace Ft
open PySem L2 PySem.W
/-- two arrangements in order of one list, one of them strictly, are the same -/
theorem sorted_eq {α : Type} {lt : α → α → Prop} : ∀ {l m : List α}, l.Perm m → l.Pairwise (fun a b => ¬ lt b a) → m.Pairwise lt → l = m
  | [], m, h, _, _ => (List.Perm.nil_eq h)
  | y :: l, [], h, _, _ => by cases h.length_eq
  | y :: l, x :: m, h, hl, hm => by
    rw [List.pairwise_cons] at hl hm
    have e : y = x := by
      have hy : y ∈ x :: m := h.mem_iff.mp (by simp)
      have hx : x ∈ y :: l := h.mem_iff.mpr (by simp)
      rcases List.mem_cons.mp hy with e | hy
      · exact e
      · rcases List.mem_cons.mp hx with e | hx
        · exact e.symm
        · exact absurd (hm.1 y hy) (hl.1 x hx)
    subst e
    rw [sorted_eq ((List.perm_cons y).mp h) hl.2 hm.2]
end Ft
set_option Elab.async false
set_option linter.all false
set_option maxRecDepth 100000
set_option maxHeartbeats 4000000
namespace Ft
open PySem PySem.Spec L2 PySem.W PyProof.Rows
abbrev Tk := Int ⊕ List Nat
def pTok (p : List Int) : List Tk := keyToksAll (p.map PyData.int)
def PLt (p q : List Int) : Prop := lexLt itemOrd (pTok p ++ [.inl 0]) (pTok q ++ [.inl 0]) = true
theorem pTok_nil : pTok [] = [.inl 0] := by unfold pTok; rw [List.map_nil, keyToksAll]
theorem pTok_cons (k : Int) (t : List Int) : pTok (k :: t) = .inl 1 :: .inl k :: pTok t := by
  unfold pTok
  rw [List.map_cons, keyToksAll, keyToks]
  rfl
theorem PLt.nil (k : Int) (t : List Int) : PLt [] (k :: t) := by
  unfold PLt
  rw [pTok_cons, pTok_nil]
  show lexLt itemOrd (.inl 0 :: [.inl 0]) (.inl 1 :: .inl k :: (pTok t ++ [.inl 0])) = true
  rw [lex_diff (O := itemOrd) (fun e => by have := Sum.inl.inj e; omega)]
  exact decide_eq_true (by decide : (0 : Int) < 1)
/-- a place as data -/
def spotD (q : Str × List Int) : PyData := .tuple [.str q.1, .tuple (q.2.map PyData.int)]
def SLt (a b : Str × List Int) : Prop := dataLt (spotD a) (spotD b) = true
theorem spot_toks (q : Str × List Int) : keyToks (spotD q) = .inl 1 :: .inr q.1.cps.toList :: .inl 1 :: (pTok q.2 ++ [.inl 0]) := by
  unfold spotD pTok
  rw [keyToks, keyToksAll, keyToks, keyToksAll, keyToks, keyToksAll]
  rfl
theorem SLt.word {z y : Str} (h : z.cps.toList < y.cps.toList) (p q : List Int) : SLt (z, p) (y, q) := by
  unfold SLt dataLt
  rw [spot_toks, spot_toks, lex_self (O := itemOrd), lex_diff (O := itemOrd) (fun e => by
    have e' : z.cps.toList = y.cps.toList := Sum.inr.inj e
    rw [e'] at h
    exact List.lt_irrefl _ h)]
  exact decide_eq_true h
theorem sortedS_strict {zs : List Str} (h : sortedS zs = true) (nd : zs.Nodup) : zs.Pairwise (fun a b => a.cps.toList < b.cps.toList) := by
  have lt_of : ∀ {a b : Str}, ltCps b.cps.toList a.cps.toList = false → a ≠ b → a.cps.toList < b.cps.toList := fun {a b} h ne => by
    rw [ltCps_eq] at h
    have h1 : ¬ b.cps.toList < a.cps.toList := of_decide_eq_false h
    cases e : decide (a.cps.toList < b.cps.toList) with
    | true => exact of_decide_eq_true e
    | false => exact absurd (str_of_cps (strKind.total _ _ e (decide_eq_false h1))) ne
  have go : ∀ (zs : List Str) (p : Str), risingS p zs = true → (p :: zs).Nodup → (p :: zs).Pairwise (fun a b => a.cps.toList < b.cps.toList) := by
    intro zs
    induction zs with
    | nil => intro p _ _; exact List.pairwise_singleton _ _
    | cons x r ih =>
      intro p h nd
      unfold risingS at h
      rw [Bool.and_eq_true] at h
      rw [List.nodup_cons] at nd
      have px : p.cps.toList < x.cps.toList := lt_of (by simpa using h.1) (fun e => nd.1 (by rw [e]; simp))
      have hr := ih x h.2 nd.2
      rw [List.pairwise_cons] at hr ⊢
      refine ⟨fun y hy => ?_, List.pairwise_cons.mpr hr⟩
      rcases List.mem_cons.mp hy with e | hy
      · rw [e]; exact px
      · exact List.lt_trans px (hr.1 y hy)
  cases zs with
  | nil => exact .nil
  | cons x r => exact go r x h nd
end Ft
set_option Elab.async false
set_option linter.all false
set_option maxRecDepth 100000
set_option maxHeartbeats 4000000
namespace Ft
open PySem L2
structure OwnM (P : PySem.Program) (w : World) (K : PySem.W.Frag) (mg : Str → Option Value) (base : Heap) (k : Nat) (C : Addr) (m : Str) (ps : List Str) (sp : Sp) (f : Addr) (fd : FuncData) : Prop where
  c : Cls K C
  m : Meth K C m f
  F : FnOk P w K mg base CX0 k f fd ps sp
  b : Binds K fd ps []
structure OwnC (P : PySem.Program) (w : World) (K : PySem.W.Frag) (mg : Str → Option Value) (base : Heap) (k : Nat) (x : Str) (C : Addr) (ps : List Str) (sp : Sp) : Prop where
  ex : ∃ (f : Addr) (fd : FuncData), Mk K C f ∧ FnOk P w K mg base CX0 k f fd ps sp ∧ mg x = some (.ref C) ∧ Binds K fd ps []
end Ft
set_option Elab.async false
set_option linter.all false
set_option maxRecDepth 100000
set_option maxHeartbeats 4000000
set_option Elab.async false
set_option linter.all false
set_option maxRecDepth 100000
set_option maxHeartbeats 4000000
set_option Elab.async false
set_option linter.all false
set_option maxRecDepth 100000
set_option maxHeartbeats 4000000
namespace Ft
open PySem PySem.Spec PyProof.Rows L2
/-- as Fun.okX, where a fault's context is told to be None -/
theorem okN {P : PySem.Program} {w : World} {K : PySem.W.Frag} {mg : Str → Option Value} {base : Heap} {x qual : Str} {st : Stmt} {f : Addr} {fd : FuncData} {N ps : List Str} {k : Nat} {sp : Sp} (F : Fun K x qual st f fd) (S : FnScope N ps (defScope st)) (len : ∀ vs H Q E, sp vs H Q E → vs.length = ps.length)
    (hbody : ∀ (cdv : Value) (A : Around) (outer : List Env) (s : Shared) (H : Hp) (vs : List V) (Q : VK) (E : XK), Room k (A.deeper (envOfC qual (defScope st) s.heap.objs.size f cdv)) → sp vs H Q E →
      ∃ t, PSs (cxOf (L2N.CX P w) P w K mg base N qual (defScope st) f cdv A outer s H E) (defBody st) t ∧ t { nx := fun _ H' => Q .non H', rt := Q } (start N vs) H) : FnOk P w K mg base (L2N.CX P w) (k + 1) f fd ps sp := by
  obtain ⟨oc, od, kV, doc, pm, an, cdv, ct, osl, rfl, lk, hcd⟩ := F.ex
  exact fn_of lk hcd S len fun A outer s H vs Q E hr hsp => hbody cdv A outer s H vs Q E hr hsp
/-- an exception of an own class with an __init__ of its own, its context None -/
theorem pmk_oexN {X : Cx} {x : Str} {e : Expr} {es : List Expr} {ta : TA} {p pos : Pos} {C fI : Addr} {k : Nat} {fd : FuncData} {ps : List Str} {sp : Sp} {ds : List Value} {dvs : List V} (T : OexC X.K C) (iC : PySem.W.findIn X.K (.ref C) "__init__" = some (some (.ref fI))) (tI : PySem.W.typeIn X.K (.ref fI) = some (.type "function"))
    (F1 : FnOk X.prog X.w X.K X.mg X.base CX0 k fI fd ps sp) (hr : Room (k + 1) X.A) (hb : Binds X.K fd ps ds) (hd : Vals dvs ds) (hg : Gl X x) (hm : X.mg x = some (.ref C)) (ha : PA X (e :: es) ta)
    (hdb : (x == ("__debug__" : Str)) = false := by decide) (he : starEach (e :: es) X.env = (false, eval e X.env) :: starEach es X.env := by rfl) (hpl : (backTo pos (starEach es X.env)).any (·.1) = false := by rfl) :
    L2N.PMk X (.Call (.Name x p) (e :: es) [] pos) (tMkO C sp dvs ta) := by
  intro pins s σ H Q I h
  obtain ⟨nm, q, N, bs, bm, sn, sub, ab, col, dd, k0, k1, k2, k3, k5, hC, hbm⟩ := T.cls
  refine wpAny_Call_Name_kw (ld_glob I hg hm ?_ hdb)
  refine PySem.W.callWith_K (h₀ := X.base) I.ok.mod.kin T.kC (thn (ha.run pos pins s σ H _ I h) fun us s1 ⟨vs, H1, I1, r1, hz, q1⟩ => ⟨I1.kIn, ?_⟩) he hpl
  show wpAny _ _ (call (.ref C) us) _ _ _
  obtain ⟨hp, g, dr, tk, os⟩ := s1
  have hsz : hp.objs.size ≤ hp.objs.size + 1 := Nat.le_succ _
  have hn : H1 (hp.objs.size + 1) = none := I1.hok.fresh hsz
  have hq := q1 (hp.objs.size + 1) hn
  have kk : ∀ b o, hp.get? b = some o → ((hp.push (PySem.W.kdv_tup us)).push (PySem.HandSPX.excO C hp.objs.size)).get? b = some o := fun b o e => Heap.get?_push_of_some _ (Heap.get?_push_of_some _ e)
  have hget : ((hp.push (PySem.W.kdv_tup us)).push (PySem.HandSPX.excO C hp.objs.size)).get? (hp.objs.size + 1) = some (PySem.HandSPX.excO C hp.objs.size) := by heap_get
  have I2 : Inv X pins σ (upd H1 (hp.objs.size + 1) (exo (hp.objs.size + 1) C none)) ⟨(hp.push (PySem.W.kdv_tup us)).push (PySem.HandSPX.excO C hp.objs.size), g, dr, tk, os⟩ :=
    I1.laid (t' := tk) (a := hp.objs.size + 1) (o := exo (hp.objs.size + 1) C none) (h' := (hp.push (PySem.W.kdv_tup us)).push (PySem.HandSPX.excO C hp.objs.size)) kk hsz (exo_ok hget)
  have r2 : Vals (V.ref (hp.objs.size + 1) :: (vs ++ dvs)) (Value.ref (hp.objs.size + 1) :: (us ++ ds)) := .cons rfl (r1.append hd)
  have hl : (Value.ref (hp.objs.size + 1) :: us ++ ds).length = ps.length := by
    have e := r2.length
    rw [F1.len _ _ _ _ hq] at e
    exact e.symm
  have hus : us.length ≤ sizeLine := by
    rw [← Paired.length r1, sizeLine_eq]
    omega
  refine wpAny_call (PySem.HandSPX.call_own F.excBase_ValueError (fun Y => PySem.HandSPX.refsVE_contains Y bm hbm) (I1.kIn _ _ hC) (PySem.W.looks_findIn I1.kIn iC) (fun self => PySem.W.bind_fn I1.kIn self tI) hus
    (codeAny_mono (F1.run _ X.stack _ _ ⟨Value.ref (hp.objs.size + 1) :: us, []⟩ (Value.ref (hp.objs.size + 1) :: (us ++ ds)) _ _ (fun _ _ _ => False) (hr.make C us []) (I2.env0.make C us []) (hb _ (Value.ref (hp.objs.size + 1) :: us) I2.kIn hl) r2 hq) fun r s' hq' => ?_))
  cases r with
  | error er => exact pass0 pins σ _ _ er s' I2 hq'
  | ok fl =>
    cases fl with
    | ret u =>
      obtain ⟨v, H2, os2, bare2, un2, hok2, rv, ev, d, fs, ea, ed, hd1, q2⟩ := hq'
      subst ev
      obtain ⟨h2, g2, d2, t2, os'⟩ := s'
      obtain ⟨t0, G, J, kG, ge, hoe, na⟩ := mk_end0 (d2 := d2) (t2 := t2) I1 hsz kk un2 hok2 os2 bare2 ea ed hd1
      exact ⟨rv, ⟨_, _, _, ⟨G, g2, d2, t2, os'⟩, _, .ref C, some d, rfl, J, kG, ge, hoe, ⟨rfl, rfl, fun vs e => by cases e; rfl⟩, rfl, rfl, na, rfl, bare2, raises_own T.exC T.tyC, q2⟩⟩
    | next => exact False.elim hq'
    | brk => exact False.elim hq'
    | cont => exact False.elim hq'
/-- a method that keeps its promise, or raises as it says -/
structure OwnX (P : PySem.Program) (w : World) (K : PySem.W.Frag) (mg : Str → Option Value) (base : Heap) (k : Nat) (C : Addr) (m : Str) (ps : List Str) (sp : Sp) : Prop where
  ex : ∃ (f : Addr) (fd : FuncData), Cls K C ∧ Meth K C m f ∧ FnOk P w K mg base (L2N.CX P w) k f fd ps sp ∧ Binds K fd ps []
theorem OwnX.mono {P : PySem.Program} {w : World} {K : PySem.W.Frag} {mg : Str → Option Value} {base : Heap} {j k : Nat} {C : Addr} {m : Str} {ps : List Str} {sp : Sp} (G : OwnX P w K mg base j C m ps sp) (h : j ≤ k) : OwnX P w K mg base k C m ps sp := by
  obtain ⟨f, fd, c, hm, F, b⟩ := G.ex
  exact ⟨f, fd, c, hm, F.mono h, b⟩
end Ft
set_option Elab.async false
set_option linter.all false
set_option maxRecDepth 100000
set_option maxHeartbeats 2000000
namespace Ft
open PySem PySem.Spec L2
/-- a clause: its class, the slot of its name, its suite's reading -/
structure Cls1 where
  c : Value
  i : Nat
  ts : Addr → Value → Option Addr → TS
/-- the ends of a suite, its name gone -/
def _root_.L2.Ends.drop (D : Ends) (i : Nat) : Ends := ⟨fun σ H => D.nx (σ.set i none) H, D.rt, fun σ H => D.bk (σ.set i none) H, fun σ H => D.ct (σ.set i none) H⟩
def wAsM (K : PySem.W.Frag) (Wo : WX) (D : Ends) : List Cls1 → WX
  | [], cls, d, σ, H => Wo cls d σ H
  | p :: r, cls, d, σ, H => (PySem.W.exmOne K cls p.c = some true ∧ ∀ a, H a = none → p.ts a cls d (D.drop p.i) (σ.set p.i (some (.ref a))) H) ∨ (PySem.W.exmOne K cls p.c = some false ∧ wAsM K Wo D r cls d σ H)
section
variable {X : Cx} {pins : List (Addr × Obj)} {σ : L2.St} {H : Hp} {s : Shared} {a : Addr} {cls : Value} {d : Option Addr} {B : Heap}
/-- an exception that has been caught: what holds of the state, and of the states that its notes lead to -/
structure Grd (X : Cx) (pins : List (Addr × Obj)) (σ : L2.St) (H : Hp) (a : Addr) (cls : Value) (d : Option Addr) (B : Heap) (s : Shared) : Prop where
  fly : HandSPX.FlyingZ B (X.env :: X.outer) a (Zc cls d) s.heap
  new : H a = none
  mv : ∀ g, HandSPX.FlyingZ B (X.env :: X.outer) a (Zc cls d) g → s.heap.UpToSlots g → Inv X pins σ H { s with heap := g }
  out : ∀ (W : WX) g, HandSPX.HeldZ B (X.env :: X.outer) a (Zc cls d) X.env.locals g → s.heap.UpToSlots g → W cls d σ H → XE X W (.ref a) { s with heap := g }
theorem Grd.at_ (G : Grd X pins σ H a cls d B s) : Inv X pins σ H s := G.mv _ G.fly (Heap.UpToSlots.refl _)
theorem Grd.to (G : Grd X pins σ H a cls d B s) {g : Heap} (f : HandSPX.FlyingZ B (X.env :: X.outer) a (Zc cls d) g) (u : s.heap.UpToSlots g) : Grd X pins σ H a cls d B { s with heap := g } :=
  ⟨f, G.new, fun g' f' u' => G.mv g' f' (u.trans u'), fun W g' f' u' => G.out W g' f' (u.trans u')⟩
/-- the context of a clause's suite -/
theorem Grd.suite (hf : X.env.frame = some X.env.locals) (G : Grd X pins σ H a cls d B s) :
    ∃ o, s.heap.get? a = some o ∧ Zc cls d o ∧ (∃ us, o.data = .fields us) ∧ Inv (X.suite a ((a, o) :: (X.pn ++ pins))) [] σ H s := by
  obtain ⟨o, us, g, z, h⟩ := G.fly.there
  have far : ∀ v ∈ X.env :: X.outer, v.frame ≠ some a := fun v hv e => by
    have := G.fly.2.2.1.mem (List.mem_filterMap.mpr ⟨v, hv, e⟩)
    rw [g] at this
    obtain ⟨_, _, h1, h2⟩ := this
    exact h2 us (by cases h1; exact h)
  exact ⟨o, g, z, ⟨us, h⟩, G.at_.suite g h G.new (fun e => far _ (List.mem_cons_self ..) (e ▸ hf)) fun m => match List.mem_filterMap.mp m with
    | ⟨v, hv, e⟩ => far v (List.mem_cons_of_mem _ hv) e⟩
/-- no clause took it -/
theorem Grd.pass {W : WX} {Q : Flow → Shared → Prop} (hf : X.env.frame = some X.env.locals) (tk : Takes X W) (G : Grd X pins σ H a cls d B s) (w : W cls d σ H) :
    wpAny (model X.prog X.w) X.A (handleBy (.ref a) X.env []) Q X.xe s := by
  have last : wpAny (model X.prog X.w) X.A (setFlight (.ref a) X.env.frame) (fun _ z => wpAny (model X.prog X.w) X.A (throw (.ref a) : Sem Flow) Q X.xe z) X.xe s :=
    hf ▸ HandSPX.setFlight_upZ G.fly fun g f u => wpAny_throw (tk _ _ (G.out W g f u w))
  obtain ⟨_, _, _, o, us, T, _, _, g1, _, g2, g3, _⟩ := G.fly
  refine wpAny_handleBy_nil ?_
  unfold PySem.passOn
  refine wpAny_bind (wpAny_field g1 g2 g3 ?_)
  rw [if_neg (by simp)]
  first
    | exact wpAny_bind (wpAny_pure (wpAny_bind last))
    | exact wpAny_bind last
/-- a suite ends as the try does, its name gone -/
theorem flow_drop {i : Nat} {n : Str} {pos : Pos} {D : Ends} {fl : Flow} {pn : List (Addr × Obj)} {q : Addr × Obj} {s1 : Shared} (ok : X.Ok) (hN : X.N.Nodup) (hi : X.N[i]? = some n) (hl : X.env.kindOf n = some .local)
    (h : SP (X.suite a (q :: (X.pn ++ pins))) pn (D.drop i) fl s1) : wpAny (model X.prog X.w) X.A (do bindName X.env n .none; unbindBehindTheSuite X.env n pos) (fun _ z => SP X pins D fl z) X.xe s1 := by
  cases fl with
  | ret u => exact match h with | ⟨v, σ2, H2, J, r, e⟩ => gone_ok (J.unsuite ok) hN hi hl fun z Jz => ⟨v, _, H2, Jz, r, e⟩
  | _ => exact match h with | ⟨σ2, H2, J, e⟩ => gone_ok (J.unsuite ok) hN hi hl fun z Jz => ⟨_, H2, Jz, e⟩
/-- one clause is asked -/
theorem Grd.ask {D : Ends} {x n : Str} {p : Cls1} {b₀ : Stmt} {su : List Stmt} {np pos : Pos} {hds : List ExceptHandler} {W : WX} (hf : X.env.frame = some X.env.locals) (hN : X.N.Nodup) (hi : X.N[p.i]? = some n) (hl : X.env.kindOf n = some .local) (hc : Names X x p.c)
    (hsu : ∀ (o : Obj) (pn : List (Addr × Obj)), Zc cls d o → (∃ us, o.data = .fields us) → PSs (X.suite a ((a, o) :: pn)) (b₀ :: su) (p.ts a cls d)) (G : Grd X pins σ H a cls d B s)
    (miss : W cls d σ H → wpAny (model X.prog X.w) X.A (handleBy (.ref a) X.env hds) (SP X pins D) X.xe s)
    (w : (PySem.W.exmOne X.K cls p.c = some true ∧ ∀ a, H a = none → p.ts a cls d (D.drop p.i) (σ.set p.i (some (.ref a))) H) ∨ (PySem.W.exmOne X.K cls p.c = some false ∧ W cls d σ H)) :
    wpAny (model X.prog X.w) X.A (handleBy (.ref a) X.env (.ExceptHandler (some (.Name x np)) (some n) (b₀ :: su) pos :: hds)) (SP X pins D) X.xe s := by
  obtain ⟨o, g, z, _, S⟩ := G.suite hf
  have ty : PySem.W.Looks (model X.prog X.w) s.heap (typeOf (.ref a)) cls := fun _ _ _ _ k q => wpAny_typeOf_ref (k _ _ g) (z.1 ▸ q)
  refine wpAny_handleBy_cons (codeAny_handlers_test ?_) (fun q => nomatch q)
  have name : ∀ {Q E : Value → Shared → Prop}, Q p.c s → wpAny (model X.prog X.w) (X.A.mark (some (.ref a))) (eval (.Name x np) X.env) Q E s := fun q =>
    match hc with
    | ⟨h1, h2, .inl m⟩ => ld_glob (X := X.suite a ((a, o) :: (X.pn ++ pins))) S h1 m q h2
    | ⟨h1, h2, .inr ⟨m, v, y⟩⟩ => ld_blt (X := X.suite a ((a, o) :: (X.pn ++ pins))) S h1 m v q y h2
  rcases w with ⟨e, w⟩ | ⟨e, w⟩
  · refine name ((PySem.W.exm_one (M := model X.prog X.w) G.at_.kIn ty e).here (codeAny_handlers_suite_as (HandSPX.lands_againZ G.fly fun g2 f2 u2 => ?_)))
    have G2 := G.to f2 u2
    obtain ⟨o2, _, z2, d2, S2⟩ := G2.suite hf
    exact store_ok (X := X.suite a ((a, o2) :: (X.pn ++ pins))) (v := .ref a) S2 hN hi (.inl hl) rfl (fun t J => wpAny_mono ((hsu o2 (X.pn ++ pins) z2 d2).run [] t _ H _ J (w a G.new)) (fun fl t2 r => flow_drop G.at_.ok hN hi hl r) fun _ _ f => f.elim) (.inr hl)
  · exact name ((PySem.W.exm_one (M := model X.prog X.w) G.at_.kIn ty e).here (miss w))
end
/-- the clauses of a try, with their readings -/
inductive HdsAs (X : Cx) : List ExceptHandler → List Cls1 → Prop
  | nil : HdsAs X [] []
  | cons {x n : Str} {c : Value} {i : Nat} {ts : Addr → Value → Option Addr → TS} {b₀ : Stmt} {su : List Stmt} {np pos : Pos} {hds : List ExceptHandler} {l : List Cls1} (hi : X.N[i]? = some n) (hl : X.env.kindOf n = some .local) (hc : Names X x c)
      (hsu : ∀ (a : Addr) (o : Obj) (cls : Value) (d : Option Addr) (pn : List (Addr × Obj)), Zc cls d o → (∃ us, o.data = .fields us) → PSs (X.suite a ((a, o) :: pn)) (b₀ :: su) (ts a cls d)) (r : HdsAs X hds l) : HdsAs X (.ExceptHandler (some (.Name x np)) (some n) (b₀ :: su) pos :: hds) (⟨c, i, ts⟩ :: l)
section
variable {X : Cx} {pins : List (Addr × Obj)} {σ : L2.St} {H : Hp} {s : Shared} {a : Addr} {cls : Value} {d : Option Addr} {B : Heap} {W : WX} {D : Ends}
theorem HdsAs.go (hf : X.env.frame = some X.env.locals) (hN : X.N.Nodup) (tk : Takes X W) (G : Grd X pins σ H a cls d B s) {hds : List ExceptHandler} {l : List Cls1} (hh : HdsAs X hds l) (w : wAsM X.K W D l cls d σ H) :
    wpAny (model X.prog X.w) X.A (handleBy (.ref a) X.env hds) (SP X pins D) X.xe s := by
  induction hh with
  | nil => exact G.pass hf tk w
  | @cons x n c i ts _ _ _ _ _ _ hi hl hc hsu _ ih => exact G.ask (p := ⟨c, i, ts⟩) hf hN hi hl hc (fun o pn => hsu a o cls d pn) ih w
/-- thrown by the body, noted, on the ground -/
theorem ground {xe : Value → Shared → Prop} {u : Value} {Q : Shared → Prop} (hs : X.stack = X.env :: X.outer) (hf : X.env.frame = some X.env.locals) (ok : X.Ok) (x : XE (X.tr (X.pn ++ pins) xe) W u s)
    (q : ∀ a cls d σ H B g, u = .ref a → Grd X pins σ H a cls d B { s with heap := g } → W cls d σ H → Q { s with heap := g }) :
    wpAny (model X.prog X.w) X.A (noteFrame u X.env) (fun _ s2 => wpAny (model X.prog X.w) X.A (setFlight u none) (fun _ s3 => Q s3) X.xe s2) X.xe s := by
  obtain ⟨a, B, s0, _, σ, H, cls, d, rfl, J, nb, up, sk, na, os, ag, w⟩ := x
  have J0 : Inv X pins σ H s0 := J.ofTry ok
  refine Sky.land Zc.steady (ok.frames.trans (congrArg some hs)) hf (hs ▸ sk) fun g f u => q a cls d σ H B g rfl ⟨f, na, fun g2 f2 u2 => J0.landed nb f2.1 (up.trans (u.trans u2)) os ag, fun W2 g2 f2 u2 w2 => ?_⟩ w
  exact ⟨a, B, s0, pins, σ, H, cls, d, rfl, J0, nb, (up.trans u).trans u2, .inr (.inr (hs.symm ▸ f2)), na, os, ag, w2⟩
theorem ps_try_asM {body : List Stmt} {h₀ : ExceptHandler} {hds : List ExceptHandler} {l : List Cls1} {pos : Pos} {tb : WX → TS} (hs : X.stack = X.env :: X.outer) (hf : X.env.frame = some X.env.locals) (hN : X.N.Nodup) (tk : Takes X W)
    (hb : ∀ (W : WX) (pn : List (Addr × Obj)) (xe : Value → Shared → Prop), Takes (X.tr pn xe) W → PassesOwn (model X.prog X.w) X.A X.env xe → PSs (X.tr pn xe) body (tb W)) (hh : HdsAs X (h₀ :: hds) l) :
    PS X (.Try body (h₀ :: hds) [] [] pos) (fun D σ H => tb (wAsM X.K W D l) D σ H) :=
  ⟨fun pins s σ H D J h => wpAny_Try_except (wpAny_mono ((hb (wAsM X.K W D l) (X.pn ++ pins) _ (fun u t x => ground (Q := fun t => wpAny (model X.prog X.w) X.A (handleBy u X.env (h₀ :: hds)) (SP X pins D) X.xe t) hs hf J.ok x fun a cls d σ H B g e G w => by
      subst e
      exact hh.go hf hN tk G w) PassesOwn.looking).run [] s σ H D (J.toTry _) h) (fun fl t r => by
    cases fl with
    | next => exact match r with | ⟨σ2, H2, J2, e⟩ => wpAny_execs_nil ⟨σ2, H2, J2.ofTry J.ok, e⟩
    | ret u => exact match r with | ⟨v, σ2, H2, J2, k, e⟩ => ⟨v, σ2, H2, J2.ofTry J.ok, k, e⟩
    | _ => exact match r with | ⟨σ2, H2, J2, e⟩ => ⟨σ2, H2, J2.ofTry J.ok, e⟩) fun _ _ e => e)⟩
end
/-- what leaves a def with its context told leaves it without, too -/
theorem cx_of_N {P : Program} {w : World} {outer : List Env} {H : Hp} {s : Shared} {E : XK} {u : Value} {s' : Shared} (c : L2N.CX P w outer H s E u s') : L2.CX P w outer H s E u s' := by
  obtain ⟨a, B, H', cls, d, e, ⟨f1, f2, f3, oe, vs, T, oT, ts, g1, g2, g3⟩, r⟩ := c
  exact ⟨a, B, H', cls, d, e, ⟨f1, f2, f3, oe, vs, T, oT, ts, g1, g2.zc, g3⟩, r⟩
theorem fn_N {P : Program} {w : World} {K : PySem.W.Frag} {mg : Str → Option Value} {base : Heap} {k : Nat} {f : Addr} {fd : FuncData} {ps : List Str} {sp : Sp} (h : FnOk P w K mg base (L2N.CX P w) k f fd ps sp) : FnOk P w K mg base (L2.CX P w) k f fd ps sp :=
  ⟨h.len, fun A outer s H args us vs Q E hr e0 hb r hs => codeAny_mono (h.run A outer s H args us vs Q E hr e0 hb r hs) fun rr s' hq => by
    cases rr with
    | error e => exact cx_of_N hq
    | ok fl => cases fl <;> exact hq⟩
end Ft
set_option Elab.async false
set_option linter.all false
set_option maxRecDepth 100000
set_option maxHeartbeats 4000000
namespace Ft
open PySem L2
def spErrInit (C : Addr) (n : Str) : Sp := fun vs H Q _ => ∃ (a : Addr) (v : V), vs = [.ref a, v] ∧ H a = some (exo a C none) ∧
  ∀ dx, H dx = none → dx ≠ a → Q .non (upd (upd H dx (exd dx [(n, v)])) a (exo a C (some dx)))
structure ErrT (P : PySem.Program) (w : World) (K : PySem.W.Frag) (mg : Str → Option Value) (base : Heap) (x n : Str) (ps : List Str) (C : Addr) : Prop where
  o : OexC K C
  g : mg x = some (.ref C)
  nF : PySem.W.findIn K (.ref C) n = some none
  ex : ∃ (f : Addr) (fd : FuncData), PySem.W.findIn K (.ref C) "__init__" = some (some (.ref f)) ∧ PySem.W.typeIn K (.ref f) = some (.type "function") ∧ FnOk P w K mg base CX0 1 f fd ps (spErrInit C n) ∧ Binds K fd ps []
  xf : XfC K C
section
variable {P : PySem.Program} {w : World} {K : PySem.W.Frag} {mg : Str → Option Value} {base : Heap}
abbrev sBadWordInit : Stmt := inClass (topS 5) 0
theorem scBadWordInit : FnScope ["self", "word"] ["self", "word"] (defScope sBadWordInit) := ⟨rfl, rfl, rfl, by decide +kernel, rfl, by decide +kernel, by decide +kernel⟩
theorem ok_BadWordInit {f C : Addr} {fd : FuncData} {k : Nat} (F : Fun K "__init__" "BadWord.__init__" sBadWordInit f fd) (o : OexC K C) (nF : PySem.W.findIn K (.ref C) "word" = some none) : FnOk P w K mg base CX0 (k + 1) f fd ["self", "word"] (spErrInit C "word") := by
  refine F.ok scBadWordInit (fun vs H Q E h => ?_) (fun cdv A outer s H vs Q E hr h => ?_)
  · obtain ⟨a, f, rfl, _⟩ := h
    rfl
  obtain ⟨a, v, rfl, ha, q⟩ := h
  refine ⟨_, pss_one (ps_ost (pv 0) (pv 1)), ?_⟩
  exact ⟨_, rfl, _, rfl, a, C, rfl, o, nF, .inl ⟨ha, fun dx ndx dxa => q dx ndx dxa⟩⟩
abbrev sBadTextInit : Stmt := inClass (topS 4) 0
theorem scBadTextInit : FnScope ["self", "line"] ["self", "line"] (defScope sBadTextInit) := ⟨rfl, rfl, rfl, by decide +kernel, rfl, by decide +kernel, by decide +kernel⟩
theorem ok_BadTextInit {f C : Addr} {fd : FuncData} {k : Nat} (F : Fun K "__init__" "BadText.__init__" sBadTextInit f fd) (o : OexC K C) (nF : PySem.W.findIn K (.ref C) "line" = some none) : FnOk P w K mg base CX0 (k + 1) f fd ["self", "line"] (spErrInit C "line") := by
  refine F.ok scBadTextInit (fun vs H Q E h => ?_) (fun cdv A outer s H vs Q E hr h => ?_)
  · obtain ⟨a, f, rfl, _⟩ := h
    rfl
  obtain ⟨a, v, rfl, ha, q⟩ := h
  refine ⟨_, pss_one (ps_ost (pv 0) (pv 1)), ?_⟩
  exact ⟨_, rfl, _, rfl, a, C, rfl, o, nF, .inl ⟨ha, fun dx ndx dxa => q dx ndx dxa⟩⟩
end
def spErr2Init (C : Addr) (n m : Str) : Sp := fun vs H Q _ => ∃ (a : Addr) (f st : V), vs = [.ref a, f, st] ∧ H a = some (exo a C none) ∧
  ∀ dx, H dx = none → dx ≠ a → Q .non (upd (upd (upd H dx (exd dx [(n, f)])) a (exo a C (some dx))) dx (exd dx [(m, st), (n, f)]))
structure ErrP (P : PySem.Program) (w : World) (K : PySem.W.Frag) (mg : Str → Option Value) (base : Heap) (C : Addr) : Prop where
  o : OexC K C
  g : mg "BadProgram" = some (.ref C)
  nM : PySem.W.findIn K (.ref C) "module" = some none
  nP : PySem.W.findIn K (.ref C) "path" = some none
  ex : ∃ (f : Addr) (fd : FuncData), PySem.W.findIn K (.ref C) "__init__" = some (some (.ref f)) ∧ PySem.W.typeIn K (.ref f) = some (.type "function") ∧ FnOk P w K mg base CX0 1 f fd ["self", "module", "path"] (spErr2Init C "module" "path") ∧ Binds K fd ["self", "module", "path"] []
  xf : XfC K C
section
variable {P : PySem.Program} {w : World} {K : PySem.W.Frag} {mg : Str → Option Value} {base : Heap}
abbrev sBadProgramInit : Stmt := inClass (topS 3) 0
theorem scBadProgramInit : FnScope ["self", "module", "path"] ["self", "module", "path"] (defScope sBadProgramInit) := ⟨rfl, rfl, rfl, by decide +kernel, rfl, by decide +kernel, by decide +kernel⟩
theorem ok_BadProgramInit {f C : Addr} {fd : FuncData} {k : Nat} (F : Fun K "__init__" "BadProgram.__init__" sBadProgramInit f fd) (o : OexC K C) (nM : PySem.W.findIn K (.ref C) "module" = some none) (nP : PySem.W.findIn K (.ref C) "path" = some none) : FnOk P w K mg base CX0 (k + 1) f fd ["self", "module", "path"] (spErr2Init C "module" "path") := by
  refine F.ok scBadProgramInit (fun vs H Q E h => ?_) (fun cdv A outer s H vs Q E hr h => ?_)
  · obtain ⟨a, f, st, rfl, _⟩ := h
    rfl
  obtain ⟨a, f, st, rfl, ha, q⟩ := h
  refine ⟨_, pss_cons (ps_ost (pv 0) (pv 1)) (pss_one (ps_ost (pv 0) (pv 2))), ?_⟩
  refine ⟨_, rfl, _, rfl, a, C, rfl, o, nM, .inl ⟨ha, fun dx ndx dxa => ?_⟩⟩
  refine ⟨_, rfl, _, rfl, a, C, rfl, o, nP, .inr ⟨dx, [("module", f)], upd_same, by rw [upd_ne dxa]; exact upd_same, by simp, ?_⟩⟩
  exact q dx ndx dxa
end
section
variable {X : Cx}
theorem ps_raiseP {C : Addr} {a b : Expr} {ta : TA} {W : WX} {p pos pos2 : Pos} (hc : X.calm = true) (T : ErrP X.prog X.w X.K X.mg X.base C) (hr : Room 2 X.A) (tk : L2N.Takes X W) (ha : PA X [a, b] ta) (hg : Gl X "BadProgram" := by rfl)
    (he : starEach (a :: [b]) X.env = (false, eval a X.env) :: starEach [b] X.env := by rfl) (hpl : (backTo pos (starEach [b] X.env)).any (·.1) = false := by rfl) :
    PS X (.Raise (some (.Call (.Name "BadProgram" p) [a, b] [] pos)) none pos2) (fun _ σ H => tMkO C (spErr2Init C "module" "path") [] ta σ H fun cls d H' => W cls d σ H') := by
  obtain ⟨f, fd, i1, i2, F, bn⟩ := T.ex
  exact L2N.ps_raise (pos := pos2) hc tk (pmk_oexN (p := p) (pos := pos) T.o i1 i2 F hr bn .nil hg T.g ha (by decide) he hpl)
theorem mkE2 {C : Addr} {n m : Str} {H1 : Hp} {Q : XK} {f st : V} (q : ∀ d, H1 d = none → Q (.ref C) (some d) (upd H1 d (.xd [(m, st), (n, f)]))) :
    [f, st].length ≤ 1000 ∧ ∀ a, H1 a = none → spErr2Init C n m (.ref a :: ([f, st] ++ [])) (upd H1 a (exo a C none))
      (fun v H2 => v = .non ∧ ∃ (d : Addr) (fs : List (Str × V)), H2 a = some (exo a C (some d)) ∧ H2 d = some (exd d fs) ∧ H1 d = none ∧ Q (.ref C) (some d) (upd (del H2 a) d (.xd fs))) (fun _ _ _ => False) := by
  refine ⟨by show 2 ≤ 1000; decide, fun a na => ⟨a, f, st, rfl, upd_same, fun dx ndx dxa => ⟨rfl, dx, [(m, st), (n, f)], ?_, upd_same, ?_, ?_⟩⟩⟩
  · rw [upd_ne dxa.symm, upd_same]
  · rw [upd_ne dxa] at ndx; exact ndx
  · rw [upd_ne dxa] at ndx
    have e : upd (del (upd (upd (upd (upd H1 a (exo a C none)) dx (exd dx [(n, f)])) a (exo a C (some dx))) dx (exd dx [(m, st), (n, f)])) a) dx (.xd [(m, st), (n, f)]) = upd H1 dx (.xd [(m, st), (n, f)]) := by
      funext b
      by_cases c1 : b = dx
      · rw [c1, upd_same, upd_same]
      · rw [upd_ne c1, upd_ne c1]
        by_cases c2 : b = a
        · rw [c2, del_same, na]
        · rw [del_ne c2, upd_ne c1, upd_ne c2, upd_ne c1, upd_ne c2]
    rw [e]
    exact q dx ndx
end
end Ft
set_option Elab.async false
set_option linter.all false
set_option maxRecDepth 100000
set_option maxHeartbeats 4000000
namespace Ft
open PySem L2
theorem lk_modulesM (r v : V) : List.lookup ("modules" : Str) [(("rows_of" : Str), r), ("spots", v)] = none := by
  have h1 : (("modules" : Str) == "rows_of") = false := by decide
  have h2 : (("modules" : Str) == "spots") = false := by decide
  simp [List.lookup, h1, h2]
end Ft
set_option Elab.async false
set_option linter.all false
set_option maxRecDepth 100000
set_option maxHeartbeats 4000000
set_option pp.maxSteps 2500
set_option Elab.async false
set_option linter.all false
set_option maxRecDepth 100000
set_option maxHeartbeats 1000000
set_option Elab.async false
set_option linter.all false
set_option maxRecDepth 100000
set_option maxHeartbeats 1000000
set_option pp.maxSteps 3000
set_option pp.deepTerms.threshold 8
set_option Elab.async false
set_option linter.all false
set_option maxRecDepth 100000
set_option maxHeartbeats 4000000
namespace Ft
open PySem L2
section
variable {P : Program} {w : World} {K : PySem.W.Frag} {mg : Str → Option Value} {base : Heap}
abbrev sLTupled : Stmt := topS 41
theorem scLTupled : FnScope ["_law_thing", "_law_part"] ["_law_thing"] (defScope sLTupled) := ⟨rfl, rfl, rfl, by decide +kernel, rfl, by decide +kernel, by decide +kernel⟩
end
end Ft
set_option Elab.async false
set_option linter.all false
set_option maxRecDepth 100000
set_option maxHeartbeats 4000000
namespace Ft
open PySem L2
theorem dpStrs {K : PySem.W.Frag} {H : Hp} : ∀ (zs : List Str), DpAll K H (zs.map V.str) (zs.map PyData.str)
  | [] => .nil
  | z :: zs => .cons (.str z) (dpStrs zs)
theorem isW_strOk {z : Str} (h : isW z = true) : PyData.strOk z = true := by
  unfold isW at h
  rw [Bool.and_eq_true, Bool.and_eq_true] at h
  unfold PyData.strOk
  rw [Array.all_eq_true']
  intro c hc
  have := List.all_eq_true.mp h.2.2 c (Array.mem_toList_iff.mpr hc)
  rw [Bool.and_eq_true] at this
  have h2 : c ≤ 122 := of_decide_eq_true this.2
  exact decide_eq_true (by omega)
theorem canLay_strs : ∀ {zs : List Str}, (∀ z ∈ zs, isW z = true) → PyData.canLayAll0 (zs.map PyData.str) = true
  | [], _ => by simp [PyData.canLayAll0]
  | z :: zs, h => by
    rw [List.map_cons, PyData.canLayAll0, PyData.canLay0, isW_strOk (h z (by simp)), canLay_strs fun y hy => h y (by simp [hy])]
    rfl
theorem depth_strs : ∀ (zs : List Str), PyData.depthAll (zs.map PyData.str) = 0
  | [] => by simp [PyData.depthAll]
  | z :: zs => by rw [List.map_cons, PyData.depthAll, PyData.depth, depth_strs zs]; rfl
theorem shaped_strs {zs : List Str} (h : ∀ z ∈ zs, isW z = true) : SeqAt.shaped (.list (zs.map PyData.str)) = true := by
  unfold SeqAt.shaped
  rw [PyData.canLay0, canLay_strs h, PyData.depth, depth_strs]
  decide
theorem eqv_nil (zs : List Str) : PyData.eqv (.list (zs.map PyData.str)) (.list []) = zs.isEmpty := by
  cases zs with
  | nil => simp [PyData.eqv, PyData.eqvAll]
  | cons z zs => simp [PyData.eqv, PyData.eqvAll]
theorem erase_perm {α : Type} : ∀ {l : List α} {k : Nat} {x : α}, l[k]? = some x → (x :: l.eraseIdx k).Perm l
  | [], k, x, h => by simp at h
  | y :: l, 0, x, h => by
    have e : y = x := Option.some.inj h
    subst e
    exact .refl _
  | y :: l, k + 1, x, h => by
    have ih := erase_perm (l := l) (k := k) (x := x) h
    exact (List.Perm.swap y x (l.eraseIdx k)).trans (ih.cons y)
theorem erase_map {α β : Type} (f : α → β) : ∀ (l : List α) (k : Nat), (l.map f).eraseIdx k = (l.eraseIdx k).map f
  | [], _ => rfl
  | _ :: _, 0 => rfl
  | x :: l, k + 1 => congrArg (f x :: ·) (erase_map f l k)
theorem seqIx {j : Int} {n : Nat} (h0 : 0 ≤ j) (h1 : j < (n : Int)) : seqIndex? j n = some j.toNat := by
  have := (ixN_seq (n := n) (i := j) (j := j.toNat) (by unfold ixN; rw [if_pos h0, if_pos h1])).1
  exact this
end Ft
set_option Elab.async false
set_option linter.all false
set_option maxRecDepth 100000
set_option maxHeartbeats 4000000
namespace Ft
open PySem L2
def repS (a : Str) (n : Nat) : Str := ⟨(List.replicate n a.cps).foldl (· ++ ·) #[]⟩
theorem repS_succ (a : Str) (n : Nat) : repS a (n + 1) = repS a n ++ a := by
  unfold repS
  rw [List.replicate_succ', List.foldl_append]
  rfl
end Ft
set_option Elab.async false
set_option linter.all false
set_option maxRecDepth 100000
set_option maxHeartbeats 4000000
namespace Ft
open PySem L2
theorem dtAt_at {H : Hp} {m : Nat} {x : V} (h : isAtom x = true) : DtAt H m x (.at x) := by cases m <;> exact ⟨rfl, h⟩
end Ft
set_option Elab.async false
set_option linter.all false
set_option maxRecDepth 100000
set_option maxHeartbeats 4000000
namespace Ft
open PySem L2
def ind (n : Nat) : Str := repS "  " n
theorem ind_succ (n : Nat) : ind n ++ ("  " : Str) = ind (n + 1) := (repS_succ _ _).symm
def szL (ls : List Str) : Nat := (ls.map (·.length)).sum + ls.length
theorem szL_nil : szL [] = 0 := rfl
theorem szL_cons (z : Str) (ls : List Str) : szL (z :: ls) = z.length + 1 + szL ls := by
  unfold szL
  rw [List.map_cons, List.sum_cons, List.length_cons]
  omega
/-- short texts of Python -/
def Shy (n : Nat) (z : Str) : Prop := z.length ≤ n ∧ PyData.strOk z = true
theorem Shy.le {m n : Nat} {a : Str} (h : Shy m a) (l : m ≤ n) : Shy n a := ⟨Nat.le_trans h.1 l, h.2⟩
def cT : Nat → Nat
  | 0 => 48
  | d + 1 => 80 + 16 * cT d
structure LinesOk (ls : List Str) (c : Nat) : Prop where
  sz : szL ls ≤ c
  ok : ∀ z ∈ ls, PyData.strOk z = true
theorem LinesOk.le {a : List Str} {c e : Nat} (h : LinesOk a c) (l : c ≤ e) : LinesOk a e := ⟨Nat.le_trans h.sz l, h.ok⟩
theorem LinesOk.one {z : Str} {c : Nat} (h : Shy c z) : LinesOk [z] (c + 1) := ⟨by rw [szL_cons, szL_nil]; have := h.1; omega, fun y hy => by rw [List.mem_singleton.mp hy]; exact h.2⟩
end Ft
set_option Elab.async false
set_option linter.all false
set_option maxRecDepth 100000
set_option maxHeartbeats 4000000
set_option Elab.async false
set_option linter.all false
set_option maxRecDepth 100000
set_option maxHeartbeats 4000000
set_option Elab.async false
set_option linter.all false
set_option maxRecDepth 100000
set_option maxHeartbeats 4000000
namespace Ft
open PySem L2
theorem perm_keys {β : Type} {a b : List (Str × β)} (hp : a.Perm b) (hk : a.map (·.1) = b.map (·.1)) (nd : (b.map (·.1)).Nodup) : a = b := by
  have hl := hp.length_eq
  refine List.ext_getElem hl fun i h1 h2 => ?_
  have hm : a[i] ∈ b := hp.mem_iff.mp (List.getElem_mem h1)
  obtain ⟨j, hj, ej⟩ := List.mem_iff_getElem.mp hm
  have e1 : (b.map (·.1))[j]? = some a[i].1 := by rw [List.getElem?_map, List.getElem?_eq_getElem hj, ej]; rfl
  have e2 : (b.map (·.1))[i]? = some a[i].1 := by rw [← hk, List.getElem?_map, List.getElem?_eq_getElem h1]; rfl
  have := nd_ix nd e1 e2
  subst this
  exact ej.symm
theorem libs_eq {lib2 lib3 lib : Lib} (p2 : lib2.Perm lib) (p3 : lib3.Perm lib) (s2 : PyProof.Rows.sortedS (lib2.map (·.1)) = true) (s3 : PyProof.Rows.sortedS (lib3.map (·.1)) = true) (nd : (lib.map (·.1)).Nodup) : lib2 = lib3 := by
  have nd2 : (lib2.map (·.1)).Nodup := (p2.map (·.1)).nodup_iff.mpr nd
  have nd3 : (lib3.map (·.1)).Nodup := (p3.map (·.1)).nodup_iff.mpr nd
  have h2 := sortedS_strict s2 nd2
  have h3 := sortedS_strict s3 nd3
  have pk : (lib2.map (·.1)).Perm (lib3.map (·.1)) := (p2.trans p3.symm).map (·.1)
  have ek : lib2.map (·.1) = lib3.map (·.1) := sorted_eq (lt := fun a b : Str => a.cps.toList < b.cps.toList) pk (h2.imp fun h => List.lt_asymm h) h3
  exact perm_keys (p2.trans p3.symm) ek nd3
end Ft
set_option Elab.async false
set_option linter.all false
set_option maxRecDepth 100000
set_option maxHeartbeats 1000000
namespace Ft
open PySem L2 TL
theorem starts_pre (z y : Str) : Txt.startswith z y = pre (tl y) (tl z) := by
  unfold Txt.startswith pre
  rw [StrLaws.subAt_eq, List.drop_zero, len_tl y, len_tl z]
  by_cases h : 0 + (tl y).length ≤ (tl z).length
  · rw [decide_eq_true h, Bool.true_and]
  · rw [decide_eq_false h, Bool.false_and]
    symm
    rw [beq_eq_false_iff_ne]
    intro e
    have := congrArg List.length e
    rw [List.length_take] at this
    omega
theorem pre_iff {S l : List Nat} : pre S l = true ↔ ∃ r, l = S ++ r := by
  constructor
  · intro h
    have e : l.take S.length = S := eq_of_beq h
    have z := List.take_append_drop S.length l
    rw [e] at z
    exact ⟨l.drop S.length, z.symm⟩
  · rintro ⟨r, rfl⟩
    exact pre_self S r
def Stop (n : Nat) (post : List Str) : Prop := ∀ z, post.head? = some z → Txt.startswith z (ind n) = false
theorem Stop.up {n : Nat} {post : List Str} (h : Stop n post) : Stop (n + 1) post := fun z hz => by
  have h1 := h z hz
  rw [starts_pre] at h1 ⊢
  cases e : pre (tl (ind (n + 1))) (tl z) with
  | false => rfl
  | true =>
    obtain ⟨q, hq⟩ := pre_iff.mp e
    rw [← ind_succ, tl_append, List.append_assoc] at hq
    have := pre_iff.mpr ⟨_, hq⟩
    rw [this] at h1
    cases h1
end Ft
set_option Elab.async false
set_option linter.all false
set_option maxRecDepth 100000
set_option maxHeartbeats 1000000
set_option pp.maxSteps 2500
set_option Elab.async false
set_option linter.all false
set_option maxRecDepth 100000
set_option maxHeartbeats 1000000
set_option pp.maxSteps 3000
set_option pp.deepTerms.threshold 8
set_option Elab.async false
set_option linter.all false
set_option maxRecDepth 100000
set_option maxHeartbeats 1000000
set_option pp.maxSteps 3000
set_option pp.deepTerms.threshold 8
set_option Elab.async false
set_option linter.all false
set_option maxRecDepth 100000
set_option maxHeartbeats 1000000
set_option Elab.async false
set_option linter.all false
set_option maxRecDepth 100000
set_option maxHeartbeats 1000000
set_option pp.maxSteps 3000
set_option pp.deepTerms.threshold 8
namespace Ft
open PySem L2
/-- the law's reader at m: the lines at l, where it is, whether something was wrong -/
structure MAt (H : Hp) (m l : Addr) (L : List Str) (i : Nat) (bad : Bool) : Prop where
  m : H m = some (.dK [(Sum.inr "lines", .ref l), (Sum.inr "at", .int i), (Sum.inr "bad", .bl bad)])
  l : H l = some (.lst (L.map V.str))
theorem MAt.at_ {H : Hp} {m l : Addr} {L : List Str} {i : Nat} {b : Bool} (h : MAt H m l L i b) : DGet H m (.str "at") (some (.int i)) := DGet.k (k := Sum.inr "at") h.m
end Ft
set_option Elab.async false
set_option linter.all false
set_option maxRecDepth 100000
set_option maxHeartbeats 1000000
set_option pp.maxSteps 3000
set_option pp.deepTerms.threshold 8
set_option Elab.async false
set_option linter.all false
set_option maxRecDepth 100000
set_option maxHeartbeats 4000000
set_option Elab.async false
set_option linter.all false
set_option maxRecDepth 100000
set_option maxHeartbeats 1000000
set_option Elab.async false
set_option linter.all false
set_option maxRecDepth 100000
set_option maxHeartbeats 1000000
set_option pp.maxSteps 3000
set_option pp.deepTerms.threshold 8
set_option Elab.async false
set_option linter.all false
set_option maxRecDepth 100000
set_option maxHeartbeats 1000000
set_option pp.maxSteps 3000
set_option pp.deepTerms.threshold 8
namespace Ft
open PySem L2 TL
theorem rowT_word {wi : Bool} {z : Str} {us : List Th} {fs : List Str} (hf : fieldsOf z = some fs) (hw : (wi && (decide (z = "make") || decide (z = "call"))) = false) (hl : us.length = fs.length) : rowT wi (.sq (.at (.str z) :: us)) = (fs.zip us).all fun p => fieldT p.1 p.2 := by
  show (match fieldsOf z with
    | some fs => !(wi && (decide (z = "make") || decide (z = "call"))) && (decide (us.length = fs.length) && ((fs.zip us).all fun p => fieldT p.1 p.2))
    | none => false) = _
  rw [hf]
  show (!(wi && (decide (z = "make") || decide (z = "call"))) && (decide (us.length = fs.length) && ((fs.zip us).all fun p => fieldT p.1 p.2))) = _
  rw [hw, decide_eq_true hl]
  rfl
end Ft
set_option Elab.async false
set_option linter.all false
set_option maxRecDepth 100000
set_option maxHeartbeats 1000000
namespace Ft
open PySem L2
/-- what never raises keeps its promise in any context -/
theorem fn_any {CX : CXT} {P : PySem.Program} {w : World} {K : PySem.W.Frag} {mg : Str → Option Value} {base : Heap} {k : Nat} {f : Addr} {fd : FuncData} {ps : List Str} {sp : Sp} (h : FnOk P w K mg base CX0 k f fd ps sp) : FnOk P w K mg base CX k f fd ps sp :=
  ⟨h.len, fun A outer s H args us vs Q E hr e0 hb r hs => codeAny_mono (h.run A outer s H args us vs Q E hr e0 hb r hs) fun rr s' hq => match rr, hq with
    | .error e, hq => False.elim hq
    | .ok (.ret _), hq => hq
    | .ok .next, hq => hq
    | .ok .brk, hq => hq
    | .ok .cont, hq => hq⟩
theorem fn_orE {P : PySem.Program} {w : World} {K : PySem.W.Frag} {mg : Str → Option Value} {base : Heap} {CX : CXT} {k : Nat} {f : Addr} {fd : FuncData} {ps : List Str} {s1 s2 : Sp} (h1 : FnOk P w K mg base CX k f fd ps s1) (h2 : FnOk P w K mg base CX k f fd ps s2) : FnOk P w K mg base CX k f fd ps (fun vs H Q E => s1 vs H Q E ∨ s2 vs H Q E) :=
  ⟨fun vs H Q E s => s.elim (h1.len vs H Q E) (h2.len vs H Q E), fun a b c d e f g h i j k l m s => s.elim (h1.run a b c d e f g h i j k l m) (h2.run a b c d e f g h i j k l m)⟩
structure OwnE (P : PySem.Program) (w : World) (K : PySem.W.Frag) (mg : Str → Option Value) (base : Heap) (k : Nat) (x : Str) (ps : List Str) (sp : Sp) : Prop where
  ex : ∃ (f : Addr) (fd : FuncData), FnOk P w K mg base (L2N.CX P w) k f fd ps sp ∧ mg x = some (.ref f) ∧ PySem.W.keepIn K (.ref f) = true ∧ Binds K fd ps []
theorem pe_ownE {X : Cx} {k : Nat} {x : Str} {ps : List Str} {sp : Sp} {W : WX} {p pos : Pos} {e : Expr} {es : List Expr} {t : TA} (G : OwnE X.prog X.w X.K X.mg X.base k x ps sp) (hr : Room k X.A) (tk : L2N.Takes X W) (hg : Gl X x) (ha : PA X (e :: es) t)
    (hdb : (x == ("__debug__" : Str)) = false := by decide) (he : starEach (e :: es) X.env = (false, eval e X.env) :: starEach es X.env := by rfl) (hpl : (backTo pos (starEach es X.env)).any (·.1) = false := by rfl) :
    PE X (.Call (.Name x p) (e :: es) [] pos) (tCallS sp (WE W) t) := by
  obtain ⟨f, fd, F, m, kp, b⟩ := G.ex
  exact pe_callS F hr hg m kp b (fun σ => L2N.passAt tk σ) ha hdb he hpl
/-- a def of the module that may go wrong, by what it does where it goes right, and where it goes wrong -/
theorem ownE_mk {P : PySem.Program} {w : World} {K : PySem.W.Frag} {mg : Str → Option Value} {base : Heap} {k : Nat} {x qual : Str} {st : Stmt} {f : Addr} {fd : FuncData} {ps : List Str} {s1 s2 : Sp} (F : Fun K x qual st f fd) (m : mg x = some (.ref f)) (b : Binds K fd ps [])
    (h1 : FnOk P w K mg base CX0 k f fd ps s1) (h2 : FnOk P w K mg base (L2N.CX P w) k f fd ps s2) : OwnE P w K mg base k x ps (fun vs H Q E => s1 vs H Q E ∨ s2 vs H Q E) :=
  ⟨f, fd, fn_orE (fn_any h1) h2, m, F.kp, b⟩
end Ft
set_option Elab.async false
set_option linter.all false
set_option maxRecDepth 100000
set_option maxHeartbeats 4000000
namespace Ft
open PySem PySem.Spec L2 PySem.W PyProof.Rows
theorem str_each : ∀ {zs : List Str} {us : List Value}, EachIs (fun (u : Value) (z : Str) => RelV (.str z) u) us zs → Vals (zs.map V.str) us
  | _, _, .nil => .nil
  | _, _, .cons r t => .cons r (str_each t)
theorem each_reads {h : Heap} : ∀ {zs : List Str} {us : List Value}, EachIs (fun (u : Value) (z : Str) => RelV (.str z) u) us zs → ∀ a : Addr, EachIs (fun (v : Value) (z : Str) => ∃ as, PySem.Reads h v (PyData.str z) as ∧ a ∉ as) us zs
  | _, _, .nil, _ => .nil
  | _, _, .cons r t, a => .cons (by
    obtain ⟨t, e⟩ := r
    subst e
    exact ⟨[], .str _ _, fun z => nomatch z⟩) (each_reads t a)
theorem strs_alike (zs : List Str) : AllAlike (zs.map PyData.str) := AllAlike.of fun _ _ => rfl
theorem strs_sortable (zs : List Str) : Sortable (zs.map PyData.str) := Sortable.others fun _ => ⟨(fun z => nomatch z), fun _ z => nomatch z⟩
theorem strs_sorted (zs : List Str) : (zs.mergeSort (dataLe false fun z : Str => PyData.str z)).Perm zs ∧ sortedS (zs.mergeSort (dataLe false fun z : Str => PyData.str z)) = true := by
  refine ⟨List.mergeSort_perm _ _, sortedS_of_pairwise _ ?_⟩
  have e : (dataLe false fun z : Str => PyData.str z) = fun a b : Str => decide (a.cps.toList ≤ b.cps.toList) := dataLe_str fun z => z
  rw [e]
  have h := List.pairwise_mergeSort (le := fun a b : Str => decide (a.cps.toList ≤ b.cps.toList)) (fun a b c h1 h2 => decide_eq_true (List.le_trans (of_decide_eq_true h1) (of_decide_eq_true h2))) (fun a b => by
    rcases List.le_total a.cps.toList b.cps.toList with h | h
    · rw [decide_eq_true h]; rfl
    · rw [decide_eq_true h, Bool.or_true]) zs
  refine h.imp fun {a b} h => ?_
  have h := of_decide_eq_true h
  rw [ltCps_eq]
  exact decide_eq_false (List.not_lt.mpr h)
theorem each_ix {R : Value → Str → Prop} : ∀ {us : List Value} {zs : List Str}, us.length = zs.length → (∀ (j : Nat) (u : Value) (z : Str), us[j]? = some u → zs[j]? = some z → R u z) → EachIs R us zs
  | [], [], _, _ => .nil
  | [], _ :: _, h, _ => by cases h
  | _ :: _, [], h, _ => by cases h
  | u :: us, z :: zs, h, k => .cons (k 0 u z rfl rfl) (each_ix (Nat.succ.inj h) fun j u z a b => k (j + 1) u z a b)
def rSortedDL : List V → Hp → VK → Prop := fun xs H Q => ∃ (a : Addr) (kvs : List (Key × V)) (ks : List Str), xs = [.ref a] ∧ Rd H a (.dK kvs) ∧ kvs.map (·.1) = ks.map Sum.inr ∧ ∀ ys p, ys.Perm ks → sortedS ys = true → H p = none → Q (.ref p) (upd H p (.lst (ys.map V.str)))
theorem call_sortedDL {X : Cx} (cm : X.calm = true) (hu : X.A.units + 64 < cLine) : CallR X (.builtin "sorted") rSortedDL := by
  intro pins s σ H as us Q I r ⟨a, kvs, ks, ea, hr, hk, q⟩
  subst ea
  rw [Vals.ref1 r]
  obtain ⟨few, low, ents, kv, da⟩ := dk_rd I.hok hr
  have ne : ents.length = ks.length := by rw [← List.length_map (f := Prod.fst), ← kv.keys, hk, List.length_map]
  obtain ⟨nx, at_⟩ := da.dictAt
  have lim : ents.length ≤ sizeLine := Nat.le_trans (Nat.le_of_eq kv.length.symm) few
  refine Calls.call_function_entry kind_sorted plain_sorted entry_sorted (args_sorted1 _) ?_
  unfold Builtin.«sorted»
  refine wpAny_bind (m := checkCount "sorted" 1 1 _) (wpAny_pure (wpAny_bind (kdu_collect (A := X.A.in1) (kdl_dict (knd := mixKind X.prog X.w) (kvs := ents) (ep := nx) low) (I.ok.hd cm) at_ lim fun h2 tk got kp hg => ?_)))
  have lg : got.toList.length = ks.length := by rw [Array.length_toList, hg.1, ne]
  have is : EachIs (fun (u : Value) (z : Str) => RelV (.str z) u) got.toList ks := each_ix lg fun j v z e1 e2 => by
    obtain ⟨k, x, m1, m2⟩ := hg.2 j v (by rw [← Array.getElem?_toList]; exact e1)
    have m3 : (ents.map Prod.fst)[j]? = some k := by rw [List.getElem?_map, m1]; rfl
    rw [← kv.keys, hk, List.getElem?_map, e2] at m3
    obtain rfl : (Sum.inr z : Key) = k := Option.some.inj m3
    obtain ⟨t, ev⟩ := Value.isStrOf_shape (x := z) (v := v) m2
    exact ⟨t, ev⟩
  have I1 : Inv X pins σ H { s with heap := h2, toks := tk } := I.kept kp
  refine wpAny_bind (wpAny_newList ?_ (by rw [lg, ← ne]; exact lim))
  have lay : (h2.push (seqObj "list" got.toList.toArray 0)).get? h2.objs.size = some (seqObj "list" got.toList.toArray 0) := Heap.get?_push_size _ rfl
  show wpAny _ _ _ _ _ { s with heap := h2.push (seqObj "list" got.toList.toArray 0), toks := tk }
  refine wpAny_bind (wpAny_holding (list_sort_data (s := { s with heap := h2.push (seqObj "list" got.toList.toArray 0), toks := tk }) (R := fun (u : Value) (z : Str) => RelV (.str z) u) (enc := fun z : Str => PyData.str z) lay is (each_reads is _) (strs_alike ks) (strs_sortable ks) (by rw [← ne]; exact lim) (fun b _ => ?_) fun out lo ho => ?_))
  · show X.A.units + 1 + 1 + 0 < cLine
    omega
  · obtain ⟨p1, p2⟩ := strs_sorted ks
    obtain ⟨ep, hs⟩ := sortedHeap_at (vs := got.toList) (out := out.toArray) lay
    have few2 : ((ks.mergeSort (dataLe false fun z : Str => PyData.str z)).map V.str).length ≤ sizeLine := by
      rw [List.length_map, p1.length_eq, ← ne]; exact lim
    refine wpAny_pure ⟨_, rfl, .ref h2.objs.size, upd H h2.objs.size (.lst ((ks.mergeSort (dataLe false fun z : Str => PyData.str z)).map V.str)), I1.laid (t' := tk) (fun b u eb => ?_) (Nat.le_refl _) ⟨few2, out, ep, str_each ho, hs⟩, rfl, q _ _ p1 p2 (I1.hok.fresh (Nat.le_refl _))⟩
    have lt : b < h2.objs.size := Heap.lt_size eb
    exact (sortedHeap_old (Nat.ne_of_lt lt) (by rw [size_push']; exact Nat.lt_succ_of_lt lt)).trans (Heap.get?_push_of_some _ eb)
end Ft
set_option Elab.async false
set_option linter.all false
set_option maxRecDepth 100000
set_option maxHeartbeats 1000000
set_option pp.maxSteps 3000
set_option pp.deepTerms.threshold 8
namespace Ft
open PySem L2
abbrev LibT := List (Str × Th)
def LibTAt (ok : Addr → Prop) (H : Hp) (m : Nat) (kvs : List (Key × V)) (lib : LibT) : Prop := Paired (fun (kv : Key × V) (x : Str × Th) => kv.1 = Sum.inr x.1 ∧ ThAt ok H m kv.2 x.2) kvs lib
theorem LibTAt.to {ok ok' : Addr → Prop} {H H' : Hp} {m : Nat} {kvs : List (Key × V)} {lib : LibT} (h : LibTAt ok H m kvs lib) (t : KeepT ok ok' H H') : LibTAt ok' H' m kvs lib := paired_imp h fun _ _ q => ⟨q.1, q.2.to t⟩
theorem libT_keys {ok : Addr → Prop} {H : Hp} {m : Nat} {kvs : List (Key × V)} {lib : LibT} (h : LibTAt ok H m kvs lib) : kvs.map (·.1) = (lib.map (·.1)).map Sum.inr := by
  induction h with
  | nil => rfl
  | cons r t ih => rw [List.map_cons, List.map_cons, List.map_cons, ih, r.1]
theorem libT_val {ok : Addr → Prop} {H : Hp} {n : Nat} {kvs : List (Key × V)} {lib : LibT} (h : LibTAt ok H n kvs lib) {z : Str} {t : Th} (hn : (lib.map (·.1)).Nodup) (hm : (z, t) ∈ lib) : ∃ v, valV kvs (Sum.inr z) = some v ∧ ThAt ok H n v t := by
  induction h with
  | nil => cases hm
  | cons r t ih =>
    rename_i kv m kvs' lib'
    rw [List.map_cons, List.nodup_cons] at hn
    rcases List.mem_cons.mp hm with e | hm
    · subst e
      refine ⟨kv.2, ?_, r.2⟩
      unfold valV
      rw [List.find?_cons_of_pos (by rw [r.1]; exact decide_eq_true rfl)]
      rfl
    · obtain ⟨v, hv, hr⟩ := ih hn.2 hm
      refine ⟨v, ?_, hr⟩
      have : ¬ kv.1 = Sum.inr z := fun e => by
        rw [r.1] at e
        have e' := Sum.inr.inj e
        exact hn.1 (by rw [e']; exact List.mem_map.mpr ⟨_, hm, rfl⟩)
      unfold valV at hv ⊢
      rw [List.find?_cons_of_neg (by rw [decide_eq_false this]; exact Bool.false_ne_true)]
      exact hv
theorem permG {β : Type} {ys ks : List Str} (h : ys.Perm ks) : ∀ lib : List (Str × β), lib.map (·.1) = ks → ∃ rest : List (Str × β), rest.map (·.1) = ys ∧ rest.Perm lib := by
  induction h with
  | nil => intro lib e; exact ⟨[], rfl, by rw [List.map_eq_nil_iff.mp e]⟩
  | cons x h ih =>
    intro lib e
    cases lib with
    | nil => cases e
    | cons m lib =>
      rw [List.map_cons] at e
      obtain ⟨rest, h1, h2⟩ := ih lib (List.cons.inj e).2
      exact ⟨m :: rest, by rw [List.map_cons, h1, (List.cons.inj e).1], h2.cons m⟩
  | swap x y l =>
    intro lib e
    cases lib with
    | nil => cases e
    | cons m lib =>
      cases lib with
      | nil => cases (List.cons.inj e).2
      | cons m2 lib =>
        rw [List.map_cons, List.map_cons] at e
        have e1 := (List.cons.inj e).1
        have e2 := (List.cons.inj (List.cons.inj e).2).1
        have e3 := (List.cons.inj (List.cons.inj e).2).2
        exact ⟨m2 :: m :: lib, by rw [List.map_cons, List.map_cons, e1, e2, e3], List.Perm.swap _ _ _⟩
  | trans h1 h2 ih1 ih2 =>
    intro lib e
    obtain ⟨r2, e2, p2⟩ := ih2 lib e
    obtain ⟨r1, e1, p1⟩ := ih1 r2 e2
    exact ⟨r1, e1, p1.trans p2⟩
theorem libsG_eq {β : Type} {lib2 lib3 lib : List (Str × β)} (p2 : lib2.Perm lib) (p3 : lib3.Perm lib) (s2 : PyProof.Rows.sortedS (lib2.map (·.1)) = true) (s3 : PyProof.Rows.sortedS (lib3.map (·.1)) = true) (nd : (lib.map (·.1)).Nodup) : lib2 = lib3 := by
  have nd2 : (lib2.map (·.1)).Nodup := (p2.map (·.1)).nodup_iff.mpr nd
  have nd3 : (lib3.map (·.1)).Nodup := (p3.map (·.1)).nodup_iff.mpr nd
  have h2 := sortedS_strict s2 nd2
  have h3 := sortedS_strict s3 nd3
  have pk : (lib2.map (·.1)).Perm (lib3.map (·.1)) := (p2.trans p3.symm).map (·.1)
  have ek : lib2.map (·.1) = lib3.map (·.1) := sorted_eq (lt := fun a b : Str => a.cps.toList < b.cps.toList) pk (h2.imp fun h => List.lt_asymm h) h3
  exact perm_keys (p2.trans p3.symm) ek nd3
/-- what is wrong with a module -/
def badM (m : Str × Th) : Option (V × List Int) := match m.2 with
  | .sq ts => (firstLT 4 false [] ts).map fun y => (.str m.1, y)
  | _ => some (.str m.1, [])
/-- what is wrong with a library whose modules stand in ascending order -/
def wrongL (lib : LibT) : Option (V × List Int) := if (lib.all fun m => isW m.1) = true then lib.findSome? badM else some (.non, [])
/-- the library is sorted, and what is wrong with it -/
structure WrongAs (lib : LibT) (u : V) (y : List Int) : Prop where
  nd : (lib.map (·.1)).Nodup
  len : ∀ m ∈ lib, m.1.length ≤ 1000
  ex : ∃ libS : LibT, libS.Perm lib ∧ PyProof.Rows.sortedS (libS.map (·.1)) = true ∧ wrongL libS = some (u, y)
theorem find_none {β γ : Type} {f : β → Option γ} {xs : List β} {i : Nat} {x : β} {y : γ} (hx : xs[i]? = some x) (hno : (xs.take i).findSome? f = none) (h : f x = some y) : xs.findSome? f = some y := by
  have e : xs = xs.take i ++ x :: xs.drop (i + 1) := by
    have h1 := List.take_append_drop i xs
    rw [List.drop_eq_getElem_cons (by exact (List.getElem?_eq_some_iff.mp hx).1)] at h1
    rw [(List.getElem?_eq_some_iff.mp hx).2] at h1
    exact h1.symm
  rw [e, List.findSome?_append, hno, List.findSome?_cons, h]
  rfl
theorem find_step {β γ : Type} {f : β → Option γ} {xs : List β} {i : Nat} {x : β} (hx : xs[i]? = some x) (hno : (xs.take i).findSome? f = none) (h : f x = none) : (xs.take (i + 1)).findSome? f = none := by
  rw [List.take_add_one, hx, List.findSome?_append, hno]
  show List.findSome? f [x] = none
  rw [List.findSome?_cons, h]
  rfl
def XBadV (CP : Addr) (z : V) (y : List Int) (H : Hp) (E : XK) : Prop := ∀ H1 d u, Same H H1 → PathAt H1 u y → H1 d = none → E (.ref CP) (some d) (upd H1 d (.xd [("path", u), ("module", z)]))
section
variable {P : PySem.Program} {w : World} {K : PySem.W.Frag} {mg : Str → Option Value} {base : Heap}
def spCheckModulesT (CP : Addr) : Sp := fun vs H _ E => ∃ (dm : Addr) (kvs : List (Key × V)) (lib : LibT) (ok : Addr → Prop) (z : V) (y : List Int), vs = [.ref dm] ∧ H dm = some (.dK kvs) ∧ LibTAt ok H 10 kvs lib ∧ 0 < lib.length ∧ lib.length ≤ 100 ∧ WrongAs lib z y ∧ XBadV CP z y H E
theorem ok_CheckModulesT {f CP : Addr} {fd : FuncData} {k : Nat} (F : Fun K "check_modules" "check_modules" sCheckModules f fd) (B : Bl mg) (hk : 9 ≤ k) (gIsWord : Own P w K mg base 1 "is_word" ["thing"] (spIsWord K)) (gFirstWrong : Own P w K mg base 9 "first_wrong" ["rows", "path", "is_within"] (spFirstWrongT 4)) (eP : ErrP P w K mg base CP) : FnOk P w K mg base (L2N.CX P w) (k + 1) f fd ["modules"] (spCheckModulesT CP) := by
  refine okN F scCheckModules (fun vs H Q E h => ?_) (fun cdv A outer s H vs Q E hr h => ?_)
  · obtain ⟨dm, kvs, lib, ok, z, y, rfl, _⟩ := h
    rfl
  obtain ⟨dm, kvs, lib, ok, z0, y0, rfl, hdm, hlib, pos, l100, wr, q⟩ := h
  refine ⟨_, (pss_cons (ps_if (PW.pt (pw_or (pt_not (pt_val (pe_callB call_isi (by rfl) B.isinstance (by decide +kernel) (pa_cons (pv 0) (pa_cons (pe_bltn (v := .ty "dict") (by rfl) B.dict (by decide +kernel) rfl) pa_nil))))) (pw_or (pt_cmpR op_eq (pe_callB call_lenD (by rfl) B.len (by decide +kernel) (pa_cons (pv 0) pa_nil)) pe_int (nomark _)) (pw_or1 (pt_not (pt_val (pe_callB (cr_all rfl) (by rfl) B.all (by decide +kernel) (pa_cons (pe_lock (pe_lc (own := [("word", 1)]) (g := (gName 1)) (tt := tYes) (by rfl) scCheckModules.nd (pi_keys (pv 0)) (blkOk_by (own := [("word", 1)]) (N := ["modules", "word", "path"]) (sc := defScope sCheckModules) (by decide +kernel)) (fun _ _ _ _ _ => (pg_name (i := 1) scCheckModules.nd rfl (by first | exact Or.inl rfl | exact Or.inr rfl))) (fun _ _ _ _ _ => pts_nil) (fun _ _ _ _ _ => (pe_own gIsWord (hr.mono (by omega)) (by rfl) (pa_cons (pv 1) pa_nil))))) pa_nil)))))))) (pss_one (ps_raiseP rfl eP (hr.mono (by omega)) (L2N.takes_of rfl rfl rfl rfl) (pa_cons pe_non (pa_cons (pe_tup pa_nil) pa_nil)))) pss_nil)
      (pss_one (ps_for (L2.passes_of rfl) rfl (pi_list (pe_callB (call_sortedDL rfl hr.units) (by rfl) B.sorted (by decide +kernel) (pa_cons (pv 0) pa_nil))) (pg_name (i := 1) scCheckModules.nd rfl (by first | exact Or.inl rfl | exact Or.inr rfl)) (pss_cons (ps_if (pt_not (pt_val (pe_callB call_isiT (by rfl) B.isinstance (by decide +kernel) (pa_cons (pe_dget (hu_of hr) (pv 0) (pv 1) (fun _ _ => rfl)) (pa_cons (pe_tup (pa_cons (pe_bltn (v := .ty "list") (by rfl) B.list (by decide +kernel) rfl) (pa_cons (pe_bltn (v := .ty "tuple") (by rfl) B.tuple (by decide +kernel) rfl) pa_nil))) pa_nil))))) (pss_one (ps_raiseP rfl eP (hr.mono (by omega)) (L2N.takes_of rfl rfl rfl rfl) (pa_cons (pv 1) (pa_cons (pe_tup pa_nil) pa_nil)))) pss_nil)
      (pss_cons (ps_set (i := 2) scCheckModules.nd rfl (by first | exact Or.inl rfl | exact Or.inr rfl) (pe_own gFirstWrong (hr.mono (by omega)) (by rfl) (pa_cons (pe_dget (hu_of hr) (pv 0) (pv 1) (fun _ _ => rfl)) (pa_cons (pe_tup pa_nil) (pa_cons pe_bl pa_nil)))))
      (pss_one (ps_if (pt_cmpR op_notN (pv 2) pe_non (nomark _)) (pss_one (ps_raiseP rfl eP (hr.mono (by omega)) (L2N.takes_of rfl rfl rfl rfl) (pa_cons (pv 1) (pa_cons (pv 2) pa_nil)))) pss_nil))))))), ?_⟩
  have hkeys := libT_keys hlib
  have hkl : kvs.length = lib.length := paired_len hlib
  refine ⟨_, rfl, _, _, _, _, _, rfl, .ty _, .base (.dK hdm), kit_ty (r := true) (by decide +kernel), true, rfl, iteF ?_⟩
  refine ⟨_, rfl, dm, kvs, rfl, hdm, rfl, _, rfl, ?_⟩
  have e0 : decide (V.int ((kvs.length : Nat) : Int) = V.int 0) = false := decide_eq_false (fun e => by
    have := V.int.inj e
    omega)
  rw [e0]
  refine iteF ?_
  -- the keys
  refine ⟨dm, .dK kvs, hdm, trivial, fun od => ?_⟩
  refine ⟨_, rfl, dm, od, rfl, .inl ⟨kvs, upd_same, fun L nL => ?_⟩⟩
  have Ld : L ≠ dm := fun e => by rw [e, upd_same] at nL; cases nL
  refine lc_it walk_keys (fun i H' => Same (upd H dm (.frz od (.dK kvs))) H' ∧ H' L = some (.lst (((lib.take i).map fun m => isW m.1).map V.bl)))
    ⟨Same.new nL, upd_same⟩ (fun i H' _ ⟨sm, _⟩ => sm _ _ upd_same) ?_ ?_
  · rintro i x H1 H2 hi ⟨sm, hL⟩ ⟨rfl, kk', v', hkv, rfl⟩
    refine ⟨rfl, ?_⟩
    obtain ⟨m, hm, hkm⟩ := paired_get hlib hkv
    obtain rfl : kk' = Sum.inr m.1 := hkm.1
    have hzl := wr.len m (List.mem_of_getElem? hm)
    refine ⟨_, rfl, .str m.1, rfl, .inl ⟨m.1, rfl, smallE (by omega)⟩, fun H3 s3 => ?_⟩
    refine ⟨_, s3 _ _ hL, by rw [List.length_map, List.length_map, List.length_take]; exact small (by omega), Same.upN (Same.trans sm s3) nL, ?_⟩
    rw [upd_same, List.take_add_one, hm, List.map_append, List.map_append]
    rfl
  · rintro H1 ⟨sm, hL⟩
    have hd1 : H1 dm = some (.frz od (.dK kvs)) := sm _ _ upd_same
    have sm1 : Same H (upd H1 dm (.dK kvs)) := fun b o e => by
      by_cases eb : b = dm
      · rw [eb, hdm] at e
        rw [eb, upd_same]; exact e
      · rw [upd_ne eb]
        exact sm _ _ (by rw [upd_ne eb]; exact e)
    rw [hkl, List.take_length] at hL
    refine ⟨hd1, L, _, rfl, SqL.of (by rw [upd_ne Ld]; exact hL), ?_⟩
    have ea : ((lib.map fun m => isW m.1).all id) = lib.all fun m => isW m.1 := by rw [List.all_map]; rfl
    rw [ea]
    refine ⟨_, rfl, ?_⟩
    generalize hG : upd H1 dm _ = G at *
    have hdG : G dm = some (.dK kvs) := by rw [← hG]; exact upd_same
    obtain ⟨nd, _, libS, pS, sS, hw⟩ := wr
    have allS : (libS.all fun m => isW m.1) = lib.all fun m => isW m.1 := Bool.eq_iff_iff.mpr (by
      rw [List.all_eq_true, List.all_eq_true]
      exact ⟨fun h m hm => h m (pS.mem_iff.mpr hm), fun h m hm => h m (pS.mem_iff.mp hm)⟩)
    unfold wrongL at hw
    rw [allS] at hw
    cases hal : lib.all fun m => isW m.1 with
    | false =>
      rw [hal, if_neg Bool.false_ne_true] at hw
      obtain ⟨rfl, rfl⟩ := Prod.mk.inj (Option.some.inj hw)
      exact iteT ⟨Nat.zero_le _, fun t1 nt1 => mkE2 fun d nd => q _ d _ (Same.trans sm1 (Same.new nt1)) ⟨t1, rfl, upd_same⟩ nd⟩
    | true =>
    rw [hal, if_pos rfl] at hw
    refine iteF ?_
    -- sorted(modules)
    refine ⟨_, rfl, dm, kvs, lib.map (·.1), rfl, .inl hdG, hkeys, fun ys l0 hperm hsort nl0 => ?_⟩
    have s2 : Same G (upd G l0 (.lst (ys.map V.str))) := Same.new nl0
    obtain ⟨lib2, e2, p2⟩ := permG hperm lib rfl
    obtain rfl : lib2 = libS := libsG_eq p2 pS (by rw [e2]; exact hsort) sS nd
    subst e2
    have ndS : (lib2.map (·.1)).Nodup := (pS.map (·.1)).nodup_iff.mpr nd
    refine ⟨l0, rfl, ⟨_, SqL.of upd_same⟩, ?_⟩
    refine for_it (walk_list (xs := (lib2.map (·.1)).map V.str)) (fun i σ H' => (lib2.take i).findSome? badM = none ∧ Same (upd G l0 (.lst ((lib2.map (·.1)).map V.str))) H' ∧ ∃ v1 v2, σ = [some (.ref dm), v1, v2])
      ⟨rfl, Same.refl _, _, _, rfl⟩ (fun i σ H' _ ⟨_, sm, _⟩ => SqL.of (sm _ _ upd_same)) ?_ ?_
    · rintro i x σ H2 H3 hi ⟨hno, s3, v1, v2, rfl⟩ ⟨rfl, hx⟩
      obtain ⟨⟨z', t⟩, hmi, rfl⟩ : ∃ m : Str × Th, lib2[i]? = some m ∧ x = .str m.1 := by
        rw [List.getElem?_map, List.getElem?_map] at hx
        cases e : lib2[i]? with
        | none => rw [e] at hx; cases hx
        | some m => rw [e] at hx; exact ⟨m, rfl, (Option.some.inj hx).symm⟩
      have hm := List.mem_of_getElem? hmi
      have s4 : Same H H3 := Same.trans sm1 (Same.trans s2 s3)
      have hlib3 : LibTAt ok H3 10 kvs lib := hlib.to (KeepT.same s4)
      obtain ⟨v, hv, hth⟩ := libT_val hlib3 nd (pS.mem_iff.mp hm)
      have hd3 : H3 dm = some (.dK kvs) := s4 _ _ hdm
      have dg : DGet H3 dm (.str z') (some v) := by rw [← hv]; exact DGet.k (k := Sum.inr z') hd3
      refine ⟨_, rfl, _, rfl, dm, v, rfl, dg, (by show 2 ≤ sizeLine; decide), fun t0 nt => ?_⟩
      have s5 : Same H3 (upd H3 t0 (.tup [.ty "list", .ty "tuple"])) := Same.new nt
      obtain ⟨T0, g1, g2⟩ := th_lt (K := K) (hth.to (KeepT.same s5))
      refine ⟨_, t0, _, _, _, _, rfl, upd_same, clsV_all ["list", "tuple"], g1, kitAny_of g2, isSq t, rfl, ?_⟩
      generalize hG3 : upd H3 t0 _ = G3 at *
      have no : isSq t = false → badM (z', t) = some (.str z', []) := fun e => by cases t <;> first | rfl | cases e
      cases hq : isSq t with
      | false =>
        have := find_none hmi hno (no hq)
        rw [this] at hw
        obtain ⟨rfl, rfl⟩ := Prod.mk.inj (Option.some.inj hw)
        exact iteT ⟨_, rfl, Nat.zero_le _, fun t1 nt1 => mkE2 fun d nd => q _ d _ (Same.trans s4 (Same.trans s5 (Same.new nt1))) ⟨t1, rfl, upd_same⟩ nd⟩
      | true =>
      obtain ⟨ts, rfl⟩ : ∃ ts, t = .sq ts := by cases t <;> first | exact ⟨_, rfl⟩ | cases hq
      refine iteF ?_
      have hd4 : G3 dm = some (.dK kvs) := s5 _ _ hd3
      have dg4 : DGet G3 dm (.str z') (some v) := by rw [← hv]; exact DGet.k (k := Sum.inr z') hd4
      refine ⟨_, rfl, _, rfl, dm, v, rfl, dg4, Nat.zero_le _, fun t1 nt1 => ?_⟩
      have s6 : Same H3 (upd G3 t1 (.tup [])) := Same.trans s5 (Same.new nt1)
      refine ⟨v, .ref t1, ok, false, ts, [], rfl, hth.to (KeepT.same s6), ⟨t1, rfl, upd_same⟩, by simp, fun G4 s7 x hx => ?_⟩
      have s47 := Same.trans s6 s7
      have eb : badM (z', .sq ts) = (firstLT 4 false [] ts).map fun y => (.str z', y) := rfl
      cases hf : firstLT 4 false [] ts with
      | none =>
        rw [hf] at hx eb
        obtain rfl : x = .non := hx
        exact ⟨_, rfl, rfl, _, rfl, iteF ⟨find_step hmi hno eb, Same.trans s3 s47, _, _, rfl⟩⟩
      | some y =>
        rw [hf] at hx eb
        obtain ⟨xa, rfl, hxa⟩ := hx
        have := find_none hmi hno eb
        rw [this] at hw
        obtain ⟨rfl, rfl⟩ := Prod.mk.inj (Option.some.inj hw)
        refine ⟨_, rfl, rfl, _, rfl, iteT ⟨_, rfl, _, rfl, mkE2 fun d nd => q _ d _ (Same.trans s4 s47) ⟨xa, rfl, hxa⟩ nd⟩⟩
    · rintro σ H2 ⟨hno, s3, v1, v2, rfl⟩
      rw [List.take_of_length_le (by rw [List.length_map, List.length_map]; exact Nat.le_refl _)] at hno
      rw [hno] at hw
      cases hw
def spProgramInitT (C CP : Addr) : Sp := fun vs H _ E => ∃ (x dx dm : Addr) (kvs : List (Key × V)) (lib : LibT) (ok : Addr → Prop) (z : V) (y : List Int), vs = [.ref x, .ref dm] ∧ H x = some (.ins C dx []) ∧ H dm = some (.dK kvs) ∧ LibTAt ok H 10 kvs lib ∧ 0 < lib.length ∧ lib.length ≤ 100 ∧ WrongAs lib z y ∧ XBadV CP z y H E
theorem ok_ProgramInitT {f C CP : Addr} {fd : FuncData} {k : Nat} (F : Fun K "__init__" "Program.__init__" sProgramInit f fd) (B : Bl mg) (hk : 10 ≤ k) (gECheckModules : OwnE P w K mg base 10 "check_modules" ["modules"] (fun vs H Q E => spCheckModules vs H Q E ∨ spCheckModulesT CP vs H Q E)) : FnOk P w K mg base (L2N.CX P w) (k + 1) f fd ["self", "modules"] (spProgramInitT C CP) := by
  refine okN F scProgramInit (fun vs H Q E h => ?_) (fun cdv A outer s H vs Q E hr h => ?_)
  · obtain ⟨x, dx, dm, kvs, lib, ok, z, y, rfl, _⟩ := h
    rfl
  obtain ⟨x, dx, dm, kvs, lib, ok, z, y, rfl, hx, hdm, hlib, pos, l100, wr, q⟩ := h
  refine ⟨_, (pss_cons (ps_expr (pe_ownE gECheckModules (hr.mono (by omega)) (L2N.takes_of rfl rfl rfl rfl) (by rfl) (pa_cons (pv 1) pa_nil)))
      pss_never), ?_⟩
  exact ⟨_, rfl, .inr ⟨dm, kvs, lib, ok, z, y, rfl, hdm, hlib, pos, l100, wr, q⟩⟩
end
end Ft
set_option Elab.async false
set_option linter.all false
set_option maxRecDepth 100000
set_option maxHeartbeats 4000000
namespace Ft
open PySem L2
section
variable {P : PySem.Program} {w : World} {K : PySem.W.Frag} {mg : Str → Option Value} {base : Heap}
abbrev sProgramModules : Stmt := inClass (topS 28) 3
theorem scProgramModules : FnScope ["self"] ["self"] (defScope sProgramModules) := ⟨rfl, rfl, rfl, by decide +kernel, rfl, by decide +kernel, by decide +kernel⟩
def spProgramModules (C : Addr) : Sp := fun vs H Q _ => ∃ (x dx rd : Addr) (sv : V) (kvs : List (Key × V)), vs = [.ref x] ∧ H x = some (.ins C dx [("rows_of", .ref rd), ("spots", sv)]) ∧ H rd = some (.dK kvs) ∧
  ∀ l, H l = none → Q (.ref l) (upd H l (.lst (kvs.map fun kv => kV kv.1)))
theorem ok_ProgramModules {f C : Addr} {fd : FuncData} {k : Nat} (F : Fun K "modules" "Program.modules" sProgramModules f fd) (B : Bl mg) (PC : PCls K mg C) : FnOk P w K mg base CX0 (k + 1) f fd ["self"] (spProgramModules C) := by
  refine F.ok scProgramModules (fun vs H Q E h => ?_) (fun cdv A outer s H vs Q E hr h => ?_)
  · obtain ⟨x, dx, rd, sv, kvs, rfl, _⟩ := h
    rfl
  obtain ⟨x, dx, rd, sv, kvs, rfl, hx, hr0, q⟩ := h
  refine ⟨_, (pss_one (ps_ret (pe_callTy (call_listD rfl) (by rfl) B.list (by decide +kernel) (pa_cons (pe_fld (pv 0) rfl) pa_nil)))), ?_⟩
  exact ⟨_, rfl, x, C, dx, _, _, rfl, hx, PC.cl, PC.nR, lk_rows _ _, rd, kvs, rfl, .inl hr0, q⟩
end
end Ft
set_option Elab.async false
set_option linter.all false
set_option maxRecDepth 100000
set_option maxHeartbeats 4000000
set_option Elab.async false
set_option linter.all false
set_option maxRecDepth 100000
set_option maxHeartbeats 4000000
namespace Ft
open PySem L2
theorem atom_bilt {x : V} (h : isAtom x = true) (hb : isIntB x = false) : kitAnyB (atomT x) ["bool", "int", "list", "tuple"] = some false := by
  cases x with
  | non => decide +kernel
  | str z => show kitAnyB "str" ["bool", "int", "list", "tuple"] = some false; decide +kernel
  | bl b => cases hb
  | int i => cases hb
  | _ => cases h
section
variable {P : Program} {w : World} {K : PySem.W.Frag} {mg : Str → Option Value} {base : Heap}
abbrev sLSame : Stmt := topS 33
theorem scLSame : FnScope ["_law_found", "_law_due", "_law_one", "_law_two"] ["_law_found", "_law_due"] (defScope sLSame) := ⟨rfl, rfl, rfl, by decide +kernel, rfl, by decide +kernel, by decide +kernel⟩
def spLSame (m : Nat) : Sp := fun vs H Q _ => ∃ (u v : V) (t : DT), vs = [u, v] ∧ DtAt H m u t ∧ DtAt H m v t ∧ ∀ H', Same H H' → Q (.bl true) H'
theorem ok_LSame {f : Addr} {fd : FuncData} {k m : Nat} {spF : Sp} (F : Fun K "_law_same" "_law_same" sLSame f fd) (B : Bl mg) (gLSame : Own P w K mg base k "_law_same" ["_law_found", "_law_due"] spF) (hF : ∀ e, m = e + 1 → spF = spLSame e) : FnOk P w K mg base CX0 (k + 1) f fd ["_law_found", "_law_due"] (spLSame m) := by
  refine F.ok scLSame (fun vs H Q E h => ?_) (fun cdv A outer s H vs Q E hr h => ?_)
  · obtain ⟨u, v, t, rfl, _⟩ := h
    rfl
  obtain ⟨u, v, t, rfl, hu, hv, q⟩ := h
  refine ⟨_, (pss_cons (ps_if (pt_val (pe_callB call_isiT (by rfl) B.isinstance (by decide +kernel) (pa_cons (pv 1) (pa_cons (pe_tup (pa_cons (pe_bltn (v := .ty "list") (by rfl) B.list (by decide +kernel) rfl) (pa_cons (pe_bltn (v := .ty "tuple") (by rfl) B.tuple (by decide +kernel) rfl) pa_nil))) pa_nil)))) (pss_cons (ps_if (PW.pt (pw_or (pt_cmpR op_ne (pe_callB call_isi (by rfl) B.isinstance (by decide +kernel) (pa_cons (pv 0) (pa_cons (pe_bltn (v := .ty "list") (by rfl) B.list (by decide +kernel) rfl) pa_nil))) (pe_callB call_isi (by rfl) B.isinstance (by decide +kernel) (pa_cons (pv 1) (pa_cons (pe_bltn (v := .ty "list") (by rfl) B.list (by decide +kernel) rfl) pa_nil))) (nomark _)) (pw_or1 (pt_cmpR op_ne (pe_callB call_isi (by rfl) B.isinstance (by decide +kernel) (pa_cons (pv 0) (pa_cons (pe_bltn (v := .ty "tuple") (by rfl) B.tuple (by decide +kernel) rfl) pa_nil))) (pe_callB call_isi (by rfl) B.isinstance (by decide +kernel) (pa_cons (pv 1) (pa_cons (pe_bltn (v := .ty "tuple") (by rfl) B.tuple (by decide +kernel) rfl) pa_nil))) (nomark _))))) (pss_one (ps_ret pe_bl)) pss_nil)
      (pss_one (ps_ret (pe_and (pe_cmpR op_eq (pe_callB call_len_seq (by rfl) B.len (by decide +kernel) (pa_cons (pv 0) pa_nil)) (pe_callB call_len_seq (by rfl) B.len (by decide +kernel) (pa_cons (pv 1) pa_nil)) (nomark _)) (pe_one (pe_callB (cr_all rfl) (by rfl) B.all (by decide +kernel) (pa_cons (pe_lc (own := [("_law_one", 2), ("_law_two", 3)]) (g := (gTup _ 2 (gCons (gName 2) (gCons (gName 3) gNil)))) (tt := tYes) (by rfl) scLSame.nd (pi_zipQ (by rfl) B.zip (pa_cons (pv 0) (pa_cons (pv 1) pa_nil))) (blkOk_by (own := [("_law_one", 2), ("_law_two", 3)]) (N := ["_law_found", "_law_due", "_law_one", "_law_two"]) (sc := defScope sLSame) (by decide +kernel)) (fun _ _ _ _ _ => (pg_tup (by rfl) (pgs_cons (pg_name (i := 2) scLSame.nd rfl (by first | exact Or.inl rfl | exact Or.inr rfl)) (pgs_cons (pg_name (i := 3) scLSame.nd rfl (by first | exact Or.inl rfl | exact Or.inr rfl)) pgs_nil)))) (fun _ _ _ _ _ => pts_nil) (fun _ _ _ _ _ => (pe_own gLSame (hr.mono (by omega)) (by rfl) (pa_cons (pv 2) (pa_cons (pv 3) pa_nil))))) pa_nil))))))) pss_nil)
      (pss_cons (ps_if (pt_val (pe_callB call_isiT (by rfl) B.isinstance (by decide +kernel) (pa_cons (pv 1) (pa_cons (pe_tup (pa_cons (pe_bltn (v := .ty "bool") (by rfl) B.bool (by decide +kernel) rfl) (pa_cons (pe_bltn (v := .ty "int") (by rfl) B.int (by decide +kernel) rfl) pa_nil))) pa_nil)))) (pss_one (ps_ret (pe_and (pe_callB call_isi (by rfl) B.isinstance (by decide +kernel) (pa_cons (pv 0) (pa_cons (pe_bltn (v := .ty "int") (by rfl) B.int (by decide +kernel) rfl) pa_nil))) (pe_and (pe_cmpR op_eq (pe_callB call_isi (by rfl) B.isinstance (by decide +kernel) (pa_cons (pv 0) (pa_cons (pe_bltn (v := .ty "bool") (by rfl) B.bool (by decide +kernel) rfl) pa_nil))) (pe_callB call_isi (by rfl) B.isinstance (by decide +kernel) (pa_cons (pv 1) (pa_cons (pe_bltn (v := .ty "bool") (by rfl) B.bool (by decide +kernel) rfl) pa_nil))) (nomark _)) (pe_one (pe_cmpR op_eq (pv 0) (pv 1) (nomark _))))))) pss_nil)
      (pss_one (ps_ret (pe_and (pe_not (pe_callB call_isiT (by rfl) B.isinstance (by decide +kernel) (pa_cons (pv 0) (pa_cons (pe_tup (pa_cons (pe_bltn (v := .ty "bool") (by rfl) B.bool (by decide +kernel) rfl) (pa_cons (pe_bltn (v := .ty "list") (by rfl) B.list (by decide +kernel) rfl) (pa_cons (pe_bltn (v := .ty "tuple") (by rfl) B.tuple (by decide +kernel) rfl) pa_nil)))) pa_nil)))) (pe_one (pe_cmpR op_eq (pv 0) (pv 1) (nomark _)))))))), ?_⟩
  refine ⟨_, rfl, (by show 2 ≤ sizeLine; decide), fun t0 nt => ?_⟩
  have s0 : Same H (upd H t0 (.tup [.ty "list", .ty "tuple"])) := Same.new nt
  cases t with
  | sq kd ts =>
    cases m with
    | zero => exact hu.elim
    | succ m =>
      have eF := hF m rfl
      subst eF
      obtain ⟨a, xs, rfl, ha, hl, hxs⟩ := hu
      obtain ⟨b, ys, rfl, hb, _, hys⟩ := hv
      have ha0 := s0 _ _ ha
      have hb0 := s0 _ _ hb
      refine ⟨_, t0, _, _, _, _, rfl, upd_same, clsV_all ["list", "tuple"], seq_ty hb0, kitAny_of (seq_lt kd), true, rfl, iteT ?_⟩
      have lx : xs.length = ts.length := by
        have : ∀ {xs : List V} {ts : List DT}, Paired (DtAt H m) xs ts → xs.length = ts.length := fun h => by
          induction h with
          | nil => rfl
          | cons _ _ ih => rw [List.length_cons, List.length_cons, ih]
        exact this hxs
      have ly : ys.length = ts.length := by
        have : ∀ {xs : List V} {ts : List DT}, Paired (DtAt H m) xs ts → xs.length = ts.length := fun h => by
          induction h with
          | nil => rfl
          | cons _ _ ih => rw [List.length_cons, List.length_cons, ih]
        exact this hys
      generalize hG : upd H t0 _ = G at *
      refine ⟨_, rfl, _, _, _, _, _, rfl, .ty _, seq_ty ha0, kit_ty (seqT_list kd), _, rfl, _, _, _, _, _, rfl, .ty _, seq_ty hb0, kit_ty (seqT_list kd), rfl, _, rfl, ?_⟩
      rw [decide_eq_true (rfl : V.bl kd = V.bl kd)]
      refine iteF ⟨_, rfl, _, _, _, _, _, rfl, .ty _, seq_ty ha0, kit_ty (seqT_tuple kd), _, rfl, _, _, _, _, _, rfl, .ty _, seq_ty hb0, kit_ty (seqT_tuple kd), rfl, _, rfl, ?_⟩
      rw [decide_eq_true (rfl : V.bl (!kd) = V.bl (!kd))]
      refine iteF ?_
      refine ⟨_, rfl, a, xs, rfl, sqa_of (sq_of ha0), _, rfl, b, ys, rfl, sqa_of (sq_of hb0), rfl, _, rfl, ?_⟩
      have el : decide (V.int ((xs.length : Nat) : Int) = V.int ((ys.length : Nat) : Int)) = true := decide_eq_true (by rw [lx, ly])
      rw [el]
      refine iteT ⟨_, rfl, _, rfl, a, b, kd, kd, xs, ys, rfl, sq_of ha0, sq_of hb0, fun L nL => ?_⟩
      refine lc_it (walk_zipQ (n := ts.length) (by omega)) (fun i H' => Same G H' ∧ H' L = some (.lst (List.replicate i (.bl true))))
        ⟨Same.new nL, upd_same⟩ (fun i H' _ ⟨sm, _⟩ => ⟨sq_of (sm _ _ ha0), sq_of (sm _ _ hb0)⟩) ?_ ?_
      · rintro i x H1 H2 hi ⟨sm, hL⟩ ⟨T, x1, x2, rfl, nT, rfl, e1, e2⟩
        have g1 : ∃ t', ts[i]? = some t' ∧ DtAt H m x1 t' := by
          have : ∀ {xs : List V} {ts : List DT} {i : Nat} {x : V}, Paired (DtAt H m) xs ts → xs[i]? = some x → ∃ t', ts[i]? = some t' ∧ DtAt H m x t' := fun {xs ts i x} h => by
            induction h generalizing i with
            | nil => intro e; simp at e
            | cons r _ ih =>
              intro e
              cases i with
              | zero =>
                have z := Option.some.inj e
                subst z
                exact ⟨_, rfl, r⟩
              | succ i => exact ih (i := i) e
          exact this hxs e1
        have g2 : ∃ t', ts[i]? = some t' ∧ DtAt H m x2 t' := by
          have : ∀ {xs : List V} {ts : List DT} {i : Nat} {x : V}, Paired (DtAt H m) xs ts → xs[i]? = some x → ∃ t', ts[i]? = some t' ∧ DtAt H m x t' := fun {xs ts i x} h => by
            induction h generalizing i with
            | nil => intro e; simp at e
            | cons r _ ih =>
              intro e
              cases i with
              | zero =>
                have z := Option.some.inj e
                subst z
                exact ⟨_, rfl, r⟩
              | succ i => exact ih (i := i) e
          exact this hys e2
        obtain ⟨t1, ht1, d1⟩ := g1
        obtain ⟨t2, ht2, d2⟩ := g2
        have et : t1 = t2 := Option.some.inj (ht1.symm.trans ht2)
        subst et
        have s5 : Same H (upd H1 T (.tup [x1, x2])) := Same.trans s0 (Same.trans sm (Same.new nT))
        have nLT : L ≠ T := ne_of_none hL nT
        refine ⟨T, _, rfl, SqT.of upd_same, rfl, _, _, rfl, _, _, rfl, rfl, rfl, ?_⟩
        refine ⟨_, rfl, _, rfl, x1, x2, t1, rfl, d1.to (fun a kd xs e => s5 _ _ e), d2.to (fun a kd xs e => s5 _ _ e), fun H3 s6 => ?_⟩
        refine ⟨_, s6 _ _ (by rw [upd_ne nLT]; exact hL), by rw [List.length_replicate]; exact big (by omega), Same.upN (Same.trans sm (Same.trans (Same.new nT) s6)) nL, ?_⟩
        rw [upd_same, List.replicate_succ']
      · rintro H1 ⟨sm, hL⟩
        refine ⟨L, List.replicate ts.length true, rfl, SqL.of (by rw [hL, List.map_replicate]), ?_⟩
        have ea : (List.replicate ts.length true).all id = true := by
          rw [List.all_eq_true]
          intro b hb
          rw [List.eq_of_mem_replicate hb]; rfl
        rw [ea]
        exact q _ (Same.trans s0 sm)
  | «at» x =>
    obtain ⟨rfl, hx⟩ : u = x ∧ isAtom x = true := by cases m <;> exact hu
    obtain ⟨rfl, _⟩ : v = u ∧ isAtom u = true := by cases m <;> exact hv
    refine ⟨_, t0, _, _, _, _, rfl, upd_same, clsV_all ["list", "tuple"], atom_ty hx, kitAny_of (atom_lt hx), false, rfl, iteF ?_⟩
    generalize hG : upd H t0 _ = G at *
    refine ⟨_, rfl, (by show 2 ≤ sizeLine; decide), fun t1 nt1 => ?_⟩
    have s1 : Same H (upd G t1 (.tup [.ty "bool", .ty "int"])) := Same.trans s0 (Same.new nt1)
    refine ⟨_, t1, _, _, _, _, rfl, upd_same, clsV_all ["bool", "int"], atom_ty hx, kitAny_of (atom_bi hx), _, rfl, ?_⟩
    generalize hG1 : upd G t1 _ = G1 at *
    have sc : scal v v = true := by cases v <;> first | rfl | cases hx
    cases hib : isIntB v with
    | true =>
      refine iteT ⟨_, rfl, _, _, _, _, _, rfl, .ty _, atom_ty hx, kit_ty (atom_int hx), _, rfl, ?_⟩
      rw [hib]
      refine iteT ⟨_, rfl, _, _, _, _, _, rfl, .ty _, atom_ty hx, kit_ty (atom_bool hx), _, rfl, _, _, _, _, _, rfl, .ty _, atom_ty hx, kit_ty (atom_bool hx), rfl, _, rfl, ?_⟩
      rw [decide_eq_true (rfl : V.bl (isBl v) = V.bl (isBl v))]
      refine iteT ⟨_, rfl, _, rfl, sc, ?_⟩
      rw [decide_eq_true (rfl : v = v)]
      exact q _ s1
    | false =>
      first
      | (refine iteF ⟨_, rfl, (by show 3 ≤ sizeLine; decide), fun t2 nt2 => ?_⟩
         have s2 : Same H (upd G1 t2 (.tup [.ty "bool", .ty "list", .ty "tuple"])) := Same.trans s1 (Same.new nt2)
         refine ⟨_, t2, _, _, _, _, rfl, upd_same, clsV_all ["bool", "list", "tuple"], atom_ty hx, kitAny_of (atom_blt hx hib), false, rfl, true, rfl, iteT ⟨_, rfl, _, rfl, sc, ?_⟩⟩
         rw [decide_eq_true (rfl : v = v)]
         exact q _ s2)
      | (refine iteF ⟨_, rfl, (by show 4 ≤ sizeLine; decide), fun t2 nt2 => ?_⟩
         have s2 : Same H (upd G1 t2 (.tup [.ty "bool", .ty "int", .ty "list", .ty "tuple"])) := Same.trans s1 (Same.new nt2)
         refine ⟨_, t2, _, _, _, _, rfl, upd_same, clsV_all ["bool", "int", "list", "tuple"], atom_ty hx, kitAny_of (atom_bilt hx hib), false, rfl, true, rfl, iteT ⟨_, rfl, _, rfl, sc, ?_⟩⟩
         rw [decide_eq_true (rfl : v = v)]
         exact q _ s2)
theorem lsame_ok {f : Addr} {fd : FuncData} (F : Fun K "_law_same" "_law_same" sLSame f fd) (B : Bl mg) (m : mg "_law_same" = some (.ref f)) (b : Binds K fd ["_law_found", "_law_due"] []) : ∀ d : Nat, Own P w K mg base (1 + d) "_law_same" ["_law_found", "_law_due"] (spLSame d)
  | 0 => own_mk F m b (ok_LSame (k := 0) F B (own_mk F m b fn_false) (fun e h => absurd h (by omega)))
  | d + 1 => own_mk F m b (ok_LSame (k := 1 + d) F B (lsame_ok F B m b d) (fun e h => by
      have : d = e := by omega
      rw [this]))
end
end Ft
set_option Elab.async false
set_option linter.all false
set_option maxRecDepth 100000
set_option maxHeartbeats 1000000
set_option pp.maxSteps 3000
set_option pp.deepTerms.threshold 8
namespace Ft
open PySem L2
/-- a module's part while the list at L grows -/
def ItT (L : Addr) (H : Hp) (v : V) (m : Str × List Row) : Prop := ∃ T rl xs, v = .ref T ∧ T ≠ L ∧ rl ≠ L ∧ H T = some (.tup [.str m.1, .ref rl]) ∧ H rl = some (.lst xs) ∧ Paired (RowAt (fun y => y ≠ L) tupK H 3) xs m.2
theorem ItT.to {L : Addr} {H H' : Hp} {v : V} {m : Str × List Row} (h : ItT L H v m) (t : ∀ y o, y ≠ L → H y = some o → H' y = some o) : ItT L H' v m := by
  obtain ⟨T, rl, xs, e, h1, h2, h4, h5, h6⟩ := h
  exact ⟨T, rl, xs, e, h1, h2, t _ _ h1 h4, t _ _ h2 h5, paired_imp h6 fun _ _ q => q.to fun y kd ws k e => ⟨k, t _ _ k e⟩⟩
end Ft
set_option Elab.async false
set_option linter.all false
set_option maxRecDepth 100000
set_option maxHeartbeats 4000000
namespace Ft
open PySem L2
section
variable {P : Program} {w : World} {K : PySem.W.Frag} {mg : Str → Option Value} {base : Heap}
abbrev sLGiven : Stmt := topS 40
theorem scLGiven : FnScope ["_law_source_here", "_law_thing", "_law_parts", "_law_part"] ["_law_source_here", "_law_thing"] (defScope sLGiven) := ⟨rfl, rfl, rfl, by decide +kernel, rfl, by decide +kernel, by decide +kernel⟩
end
end Ft
set_option Elab.async false
set_option linter.all false
set_option maxRecDepth 100000
set_option maxHeartbeats 1000000
set_option pp.maxSteps 3000
set_option pp.deepTerms.threshold 8
namespace Ft
open PySem PySem.Spec L2 PyProof.Rows
def pathT (y : List Int) : DT := .sq false (y.map fun i => .at (.int i))
def badVT (u : V) (y : List Int) : DT := .sq false [.at (.str "program"), .at u, pathT y]
theorem path_dt {H : Hp} {m : Nat} {v : V} {y : List Int} (h : PathAt H v y) (hl : y.length ≤ 1000) : DtAt H (m + 1) v (pathT y) := by
  obtain ⟨a, rfl, h⟩ := h
  refine ⟨a, _, rfl, h, by rw [List.length_map]; omega, ?_⟩
  have go : ∀ l : List Int, Paired (DtAt H m) (l.map V.int) (l.map fun n => DT.at (.int n)) := by
    intro l
    induction l with
    | nil => exact .nil
    | cons n l ih => exact .cons (by cases m <;> exact ⟨rfl, rfl⟩) ih
  exact go _
theorem firstT_len : ∀ (d : Nat) (wi : Bool) (p : List Int) (q : Th × Nat) (y : List Int), firstT d wi p q = some y → y.length ≤ p.length + 2 * d + 1 := by
  intro d
  induction d with
  | zero =>
    intro wi p q y h
    have h : (if rowT wi q.1 = true then none else some (p ++ [(q.2 : Int)])) = some y := h
    split at h
    · cases h
    · rw [← Option.some.inj h, List.length_append]; exact Nat.le_refl _
  | succ d ih =>
    intro wi p q y h
    have h : (if rowT wi q.1 = true then (blksT q.1).zipIdx.findSome? fun b => b.1.zipIdx.findSome? (firstT d (wi || decide (wordOf q.1 = "make")) (p ++ [(q.2 : Int), (b.2 : Int)])) else some (p ++ [(q.2 : Int)])) = some y := h
    split at h
    · obtain ⟨b, _, h⟩ := List.exists_of_findSome?_eq_some h
      obtain ⟨x, _, h⟩ := List.exists_of_findSome?_eq_some h
      have := ih _ _ _ _ h
      simp at this
      omega
    · rw [← Option.some.inj h, List.length_append, List.length_singleton]; omega
theorem badM_len {m : Str × Th} {u : V} {y : List Int} (h : badM m = some (u, y)) : y.length ≤ 9 ∧ u = .str m.1 := by
  unfold badM at h
  split at h
  · obtain ⟨y2, h3, e⟩ := Option.map_eq_some_iff.mp h
    obtain ⟨e1, e2⟩ := Prod.mk.inj e
    obtain ⟨x, _, h4⟩ := List.exists_of_findSome?_eq_some h3
    have := firstT_len _ _ _ _ _ h4
    rw [← e2]
    exact ⟨by simpa using this, e1.symm⟩
  · obtain ⟨e1, e2⟩ := Prod.mk.inj (Option.some.inj h)
    rw [← e2]
    exact ⟨by simp, e1.symm⟩
theorem wrongL_len {lib : LibT} {u : V} {y : List Int} (h : wrongL lib = some (u, y)) : y.length ≤ 9 ∧ isAtom u = true := by
  unfold wrongL at h
  split at h
  · obtain ⟨m, _, h2⟩ := List.exists_of_findSome?_eq_some h
    obtain ⟨h3, h4⟩ := badM_len h2
    exact ⟨h3, by rw [h4]; rfl⟩
  · obtain ⟨e1, e2⟩ := Prod.mk.inj (Option.some.inj h)
    rw [← e2, ← e1]
    exact ⟨by simp, rfl⟩
end Ft
set_option Elab.async false
set_option linter.all false
set_option maxRecDepth 100000
set_option maxHeartbeats 1000000
set_option pp.maxSteps 3000
set_option pp.deepTerms.threshold 8
namespace Ft
open PySem L2
mutual
def szT : Th → Nat
  | .at _ => 1
  | .dc => 1
  | .sq ts => 1 + szTs ts
def szTs : List Th → Nat
  | [] => 0
  | t :: ts => szT t + szTs ts
end
theorem szTs_app : ∀ (a b : List Th), szTs (a ++ b) = szTs a + szTs b
  | [], b => by show szTs b = 0 + szTs b; omega
  | t :: a, b => by
    show szT t + szTs (a ++ b) = szT t + szTs a + szTs b
    rw [szTs_app a b]; omega
theorem szTs_one (t : Th) : szTs [t] = szT t := by show szT t + 0 = _; omega
theorem szT_sq (ts : List Th) : szT (.sq ts) = 1 + szTs ts := rfl
theorem szTs_take (ts : List Th) (i : Nat) : szTs (ts.take i) ≤ szTs ts := by
  have h := szTs_app (ts.take i) (ts.drop i)
  rw [List.take_append_drop] at h
  omega
theorem szT_pos (t : Th) : 1 ≤ szT t := by cases t <;> simp [szT]
/-- new, or good ahead -/
def newO (ok : Addr → Prop) (H : Hp) (x : Addr) : Prop := H x = none ∨ (ok x ∧ H x ≠ none)
section
variable {P : Program} {w : World} {K : PySem.W.Frag} {mg : Str → Option Value} {base : Heap}
def spLGivenT (m : Nat) : Sp := fun vs H Q _ => ∃ (a : Addr) (n : Int) (v : V) (t : Th) (ok : Addr → Prop), vs = [.ref a, v] ∧ Src H a n ∧ n + szT t < 2 ^ 39 ∧ ThAt ok H m v t ∧ ¬ ok a ∧
  ∀ H' v' n', Fr (· ≠ a) H H' → Src H' a n' → n ≤ n' → n' ≤ n + szT t → ThAt (newO ok H) H' m v' t → Q v' H'
theorem ok_LGivenT {f : Addr} {fd : FuncData} {k m : Nat} {spG : Sp} (F : Fun K "_law_given" "_law_given" sLGiven f fd) (B : Bl mg) (hk : 1 ≤ k) (gLDraw : Own P w K mg base 1 "_law_draw" ["_law_source_here", "_law_many"] spLDraw)
    (gLGiven : Own P w K mg base k "_law_given" ["_law_source_here", "_law_thing"] spG) (hG : ∀ e, m = e + 1 → spG = spLGivenT e) : FnOk P w K mg base CX0 (k + 1) f fd ["_law_source_here", "_law_thing"] (spLGivenT m) := by
  refine F.ok scLGiven (fun vs H Q E h => ?_) (fun cdv A outer s H vs Q E hr h => ?_)
  · obtain ⟨a, n, v, e, ok, rfl, _⟩ := h
    rfl
  obtain ⟨a, n, v, t, ok, rfl, hs, hn, hv, hok, q⟩ := h
  refine ⟨_, (pss_cons (ps_if (pt_not (pt_val (pe_callB call_isiT (by rfl) B.isinstance (by decide +kernel) (pa_cons (pv 1) (pa_cons (pe_tup (pa_cons (pe_bltn (v := .ty "list") (by rfl) B.list (by decide +kernel) rfl) (pa_cons (pe_bltn (v := .ty "tuple") (by rfl) B.tuple (by decide +kernel) rfl) pa_nil))) pa_nil))))) (pss_one (ps_ret (pv 1))) pss_nil)
      (pss_cons (ps_setLc (i := 2) (own := [("_law_part", 3)]) (g := (gName 3)) (tt := tYes) (by rfl) scLGiven.nd rfl rfl (sw_true rfl rfl rfl (by decide +kernel)) (pi_seq (pv 1)) (blkOk_by (own := [("_law_part", 3)]) (N := ["_law_source_here", "_law_thing", "_law_parts", "_law_part"]) (sc := defScope sLGiven) (by decide +kernel)) (fun _ _ _ _ _ => (pg_name (i := 3) scLGiven.nd rfl (by first | exact Or.inl rfl | exact Or.inr rfl))) (fun _ _ _ _ _ => pts_nil) (fun _ _ _ _ _ => (pe_own gLGiven (hr.mono (by omega)) (by rfl) (pa_cons (pv 0) (pa_cons (pv 3) pa_nil)))))
      (pss_one (ps_ret (pe_ix ix_list (pe_lst (pa_cons (pe_callTy call_tuple_of (by rfl) B.tuple (by decide +kernel) (pa_cons (pv 2) pa_nil)) (pa_cons (pv 2) pa_nil))) (pe_own gLDraw (hr.mono (by omega)) (by rfl) (pa_cons (pv 0) (pa_cons pe_int pa_nil))) (fun _ _ => rfl)))))), ?_⟩
  refine ⟨_, rfl, (by show 2 ≤ sizeLine; decide), fun t0 nt => ?_⟩
  have f0 : Fr (· ≠ a) H (upd H t0 (.tup [.ty "list", .ty "tuple"])) := Fr.new nt
  have s0 : Src (upd H t0 (.tup [.ty "list", .ty "tuple"])) a n := hs.new nt
  have hv' : ThAt (fun x => ok x ∧ H x ≠ none) H m v t := hv.to (KeepT.mono fun x k h => ⟨k, h⟩)
  have okf : ∀ x, (ok x ∧ H x ≠ none) → x ≠ a := fun x kx z => hok (by rw [← z]; exact kx.1)
  have leaf : isSq t = false → ∀ {G : Hp}, Fr (· ≠ a) H G → ThAt (newO ok H) G m v t := fun e G f => by
    have k : KeepT (fun x => ok x ∧ H x ≠ none) (newO ok H) H G := KeepT.fr (f.mono okf) fun x k => .inr k
    exact hv'.to k
  obtain ⟨T0, g1, g2⟩ := th_lt (K := K) hv
  have p1 := szT_pos t
  cases t with
  | «at» x =>
    exact ⟨_, t0, _, _, _, _, rfl, upd_same, clsV_all ["list", "tuple"], TyX.same g1 (Same.new nt), kitAny_of g2, false, rfl, iteT ⟨_, rfl, q _ _ n f0 s0 (by omega) (by omega) (leaf rfl f0)⟩⟩
  | dc =>
    exact ⟨_, t0, _, _, _, _, rfl, upd_same, clsV_all ["list", "tuple"], TyX.same g1 (Same.new nt), kitAny_of g2, false, rfl, iteT ⟨_, rfl, q _ _ n f0 s0 (by omega) (by omega) (leaf rfl f0)⟩⟩
  | sq es =>
    clear leaf
    obtain ⟨m', b, kd, xs, rfl, rfl, okb, hb, hl8, hall⟩ := thAt_sq hv'
    have eG := hG m' rfl
    subst eG
    have hb0 : (upd H t0 (.tup [.ty "list", .ty "tuple"])) b = some (mkO kd xs) := by rw [upd_ne (ne_of_none hb nt)]; exact hb
    rw [szT_sq] at hn q
    refine ⟨_, t0, _, _, _, _, rfl, upd_same, clsV_all ["list", "tuple"], seq_ty hb0, kitAny_of (seq_lt kd), true, rfl, iteF ?_⟩
    generalize upd H t0 _ = H0 at f0 s0 hb0
    have ba : b ≠ a := okf b okb
    have lx : xs.length = es.length := paired_len hall
    refine ⟨_, rfl, b, kd, xs, rfl, sq_of hb0, fun D nD => ?_⟩
    have nDH : H D = none := by
      obtain ⟨o, eo⟩ := s0.is
      exact f0.freeD eo nD
    have Da : D ≠ a := s0.nn nD
    refine lc_it walk_seq (fun i H' => Fr (· ≠ a) H0 H' ∧ ∃ n', n ≤ n' ∧ n' ≤ n + szTs (es.take i) ∧ Src H' a n' ∧ ∃ ys, H' D = some (.lst ys) ∧ Paired (ThAt (fun x => newO ok H x ∧ x ≠ D) H' m') ys (es.take i))
      ⟨Fr.new nD, n, by omega, by simp [szTs], s0.new nD, [], upd_same, .nil⟩ (fun i H' _ ⟨fr, _⟩ => sq_of (fr _ _ ba hb0)) ?_ ?_
    · rintro i x H1 H2 hi ⟨fr1, n1, l1, l2, sr1, ys, hD, hys⟩ ⟨rfl, hx⟩
      obtain ⟨e, he, hxe⟩ := paired_get hall hx
      have et : es.take (i + 1) = es.take i ++ [e] := by rw [List.take_add_one, he]; rfl
      have hsz : szTs (es.take (i + 1)) = szTs (es.take i) + szT e := by rw [et, szTs_app, szTs_one]
      have hle := szTs_take es (i + 1)
      refine ⟨rfl, ?_⟩
      refine ⟨_, rfl, _, rfl, a, n1, x, e, fun x => ok x ∧ H x ≠ none, rfl, sr1, by omega, hxe.to (KeepT.fr ((f0.trans fr1).mono okf) fun _ k => k), (fun k => hok k.1), fun H3 v' n3 fr3 sr3 l3 l4 hv' => ?_⟩
      have hD3 : H3 D = some (.lst ys) := fr3 _ _ Da hD
      have ly : ys.length ≤ 100 := by rw [paired_len hys, List.length_take]; omega
      refine ⟨ys, hD3, small (by omega), (fr1.trans fr3).upN nD, n3, by omega, by rw [hsz]; omega, sr3.ne Da.symm, ys ++ [v'], upd_same, ?_⟩
      have nea : ∀ x, newO ok H x → x ≠ a := fun x h => h.elim (fun h => hs.nn h) fun h => okf x h
      have kp1 : KeepT (fun x => newO ok H x ∧ x ≠ D) (fun x => newO ok H x ∧ x ≠ D) H2 (upd H3 D (.lst (ys ++ [v']))) := fun x o k _ e => by
        refine ⟨k, ?_⟩
        rw [upd_ne k.2]
        exact fr3 _ _ (nea x k.1) e
      have kp2 : KeepT (newO (fun x => ok x ∧ H x ≠ none) H2) (fun x => newO ok H x ∧ x ≠ D) H3 (upd H3 D (.lst (ys ++ [v']))) := fun x o k _ e => by
        rcases k with k | ⟨k, _⟩
        · have xD : x ≠ D := fun z => by rw [z, hD] at k; cases k
          obtain ⟨o, eo⟩ := sr1.is
          exact ⟨⟨.inl ((f0.trans fr1).freeD eo k), xD⟩, by rw [upd_ne xD]; exact e⟩
        · have xD : x ≠ D := fun z => k.2 (by rw [z]; exact nDH)
          exact ⟨⟨.inr k, xD⟩, by rw [upd_ne xD]; exact e⟩
      rw [et]
      exact paired_app (hv'.to kp2) (paired_imp hys fun v r q => q.to kp1)
    · rintro H1 ⟨fr1, n1, l1, l2, sr1, ys, hD, hys⟩
      rw [lx, List.take_length] at hys l2
      have ly : ys.length = es.length := paired_len hys
      refine ⟨_, rfl, D, ys, rfl, .inl ⟨SqL.of hD, fun l nl => ?_⟩⟩
      refine ⟨_, rfl, (by show 2 ≤ sizeLine; decide), fun p np => ?_⟩
      have sr2 : Src (upd (upd H1 l (.tup ys)) p (.lst [.ref l, .ref D])) a n1 := (sr1.new nl).new np
      refine ⟨_, rfl, a, 2, n1, rfl, sr2, by omega, by decide, by decide, fun H3 j fr3 sr3 j0 j1 => ?_⟩
      have pa : p ≠ a := (sr1.new nl).nn np
      have la : l ≠ a := sr1.nn nl
      have hp3 : H3 p = some (.lst [.ref l, .ref D]) := fr3 _ _ pa upd_same
      have frA : Fr (· ≠ a) H1 H3 := ((Fr.new nl).trans (Fr.new np)).trans fr3
      have frB : Fr (· ≠ a) H H3 := f0.trans (fr1.trans frA)
      obtain ⟨o1, eo1⟩ := sr1.is
      have lH : H l = none := (f0.trans fr1).freeD eo1 nl
      have nea : ∀ x, newO ok H x → x ≠ a := fun x h => h.elim (fun h => hs.nn h) fun h => okf x h
      have kpA : KeepT (fun x => newO ok H x ∧ x ≠ D) (newO ok H) H1 H3 := KeepT.fr (frA.mono fun x k => nea x k.1) fun x k => k.1
      have hys3 := paired_imp hys fun v r q => ThAt.to kpA q
      have hl3 : H3 l = some (.tup ys) := fr3 _ _ la (by
        rw [upd_ne (ne_of_none (H := upd H1 l (.tup ys)) upd_same np)]; exact upd_same)
      have hD3 : H3 D = some (.lst ys) := frA _ _ Da hD
      have fin : ∀ v', ThAt (newO ok H) H3 (m' + 1) v' (.sq es) → Q v' H3 := fun v' hv' => q _ _ (n1 + 1) frB sr3 (by omega) (by omega) hv'
      have j2 : j = 0 ∨ j = 1 := by omega
      rcases j2 with e | e
      · subst e
        exact ⟨p, _, 0, .ref l, rfl, rfl, SqL.of hp3, rfl, fin _ ⟨l, false, ys, rfl, .inl lH, hl3, hl8, hys3⟩⟩
      · subst e
        exact ⟨p, _, 1, .ref D, rfl, rfl, SqL.of hp3, rfl, fin _ ⟨D, true, ys, rfl, .inl nDH, hD3, hl8, hys3⟩⟩
theorem givenT_ok {f : Addr} {fd : FuncData} (F : Fun K "_law_given" "_law_given" sLGiven f fd) (B : Bl mg) (m : mg "_law_given" = some (.ref f)) (b : Binds K fd ["_law_source_here", "_law_thing"] []) (gLDraw : Own P w K mg base 1 "_law_draw" ["_law_source_here", "_law_many"] spLDraw) :
    ∀ d : Nat, Own P w K mg base (2 + d) "_law_given" ["_law_source_here", "_law_thing"] (spLGivenT d)
  | 0 => own_mk F m b (ok_LGivenT (k := 1) F B (by omega) gLDraw (own_mk F m b fn_false) (fun e h => absurd h (by omega)))
  | d + 1 => own_mk F m b (ok_LGivenT (k := 2 + d) F B (by omega) gLDraw (givenT_ok F B m b gLDraw d) (fun e h => by
      have : d = e := by omega
      rw [this]))
end
end Ft
set_option Elab.async false
set_option linter.all false
set_option maxRecDepth 100000
set_option maxHeartbeats 1000000
set_option pp.maxSteps 3000
set_option pp.deepTerms.threshold 8
namespace Ft
open PySem L2
section
variable {K : PySem.W.Frag} {ok : Addr → Prop} {Hb : Hp} {m n : Nat} {σ : L2.St} {te : TE} {ts : TA} {t : Th} {us us2 : List Th}
/-- te yields a thing, beside what stands at Hb -/
def YT (ok : Addr → Prop) (Hb : Hp) (m : Nat) (te : TE) (σ : L2.St) (t : Th) : Prop := ∀ (H : Hp) (Q : VK), Same Hb H → (∀ H' v, Same H H' → ThAt ok H' m v t → Q v H') → te σ H Q
def YTs (ok : Addr → Prop) (Hb : Hp) (m n : Nat) (ts : TA) (σ : L2.St) (us : List Th) : Prop := us.length ≤ n ∧ ∀ (H : Hp) (Q : List V → Hp → Prop), Same Hb H → (∀ H' vs, Same H H' → Paired (ThAt ok H' m) vs us → Q vs H') → ts σ H Q
theorem yt_c {x : V} (h : smallT x = true) : YT ok Hb m (tC x) σ (.at x) := fun H Q s q => q H x (Same.refl H) (thAt_at' h)
theorem yts_nil : YTs ok Hb m n tNil σ [] := ⟨Nat.zero_le _, fun H Q s q => q H [] (Same.refl H) .nil⟩
theorem yts_cons (h1 : YT ok Hb m te σ t) (h2 : YTs ok Hb m n ts σ us) : YTs ok Hb m (n + 1) (tCons te ts) σ (t :: us) :=
  ⟨Nat.succ_le_succ h2.1, fun H Q s q => h1 H _ s fun H1 v s1 hv => h2.2 H1 _ (Same.trans s s1) fun H2 vs s2 hvs => q H2 (v :: vs) (Same.trans s1 s2) (.cons (hv.to (KeepT.same s2)) hvs)⟩
theorem yt_tup (hf : ∀ x, Hb x = none → ok x) (h : YTs ok Hb m 12 ts σ us) : YT ok Hb (m + 1) (tTup ts) σ (.sq us) := fun H Q s q => h.2 H _ s fun H1 vs s1 hvs => by
  have l1 := h.1
  have l2 := paired_len hvs
  exact ⟨smallE (by omega), fun p np => q _ _ (Same.trans s1 (Same.new np)) ⟨p, false, vs, rfl, hf p (Same.free (Same.trans s s1) np), upd_same, by omega, paired_imp hvs fun _ _ q => q.to (KeepT.same (Same.new np))⟩⟩
theorem yt_lst (hf : ∀ x, Hb x = none → ok x) (h : YTs ok Hb m 12 ts σ us) : YT ok Hb (m + 1) (tLst ts) σ (.sq us) := fun H Q s q => h.2 H _ s fun H1 vs s1 hvs => by
  have l1 := h.1
  have l2 := paired_len hvs
  exact ⟨smallE (by omega), fun p np => q _ _ (Same.trans s1 (Same.new np)) ⟨p, true, vs, rfl, hf p (Same.free (Same.trans s s1) np), upd_same, by omega, paired_imp hvs fun _ _ q => q.to (KeepT.same (Same.new np))⟩⟩
theorem yt_dn (hf : ∀ x, Hb x = none → ok x) : YT ok Hb m tDNewK σ .dc := fun H Q s q p np => q _ _ (Same.new np) (thAt_dc' (hf p (Same.free s np)) upd_same)
theorem yt_d1 {z : Str} {x : V} (hf : ∀ x, Hb x = none → ok x) : YT ok Hb m (tDisp [(tC (.str z), tC x)]) σ .dc := fun H Q s q p np => by
  refine ⟨upd_same, [(Sum.inr z, x)], rfl, by show 1 ≤ 15; decide, q _ _ (Same.upN (Same.new np) np) (thAt_dc' (hf p (Same.free s np)) upd_same)⟩
/-- a list of things is set -/
theorem set_th {i : Nat} {D' : Ends} {rest : TS} (hf : ∀ x, Hb x = none → ok x) (hg : YTs ok Hb m 12 ts σ us) (q : ∀ H' c vs, Same Hb H' → ok c → H' c = some (.lst vs) → Paired (ThAt ok H' m) vs us → rest D' (σ.set i (some (.ref c))) H') :
    tSeq (tAsg (tLst ts) (gName i)) rest D' σ Hb := hg.2 Hb _ (Same.refl _) fun H1 vs s1 hvs => by
  have l1 := hg.1
  have l2 := paired_len hvs
  exact ⟨smallE (by omega), fun p np => q _ p vs (Same.trans s1 (Same.new np)) (hf p (Same.free s1 np)) upd_same (paired_imp hvs fun _ _ q => q.to (KeepT.same (Same.new np)))⟩
theorem paired_append {α β : Type} {R : α → β → Prop} : ∀ {xs xs2 : List α} {ys ys2 : List β}, Paired R xs ys → Paired R xs2 ys2 → Paired R (xs ++ xs2) (ys ++ ys2)
  | _, _, _, _, .nil, h => h
  | _, _, _, _, .cons r t, h => .cons r (paired_append t h)
end
theorem paired_mem {α β : Type} {R : α → β → Prop} {xs : List α} {ys : List β} (h : Paired R xs ys) {x : α} (hx : x ∈ xs) : ∃ y ∈ ys, R x y := by
  obtain ⟨i, hi, e⟩ := List.mem_iff_getElem.mp hx
  obtain ⟨y, hy, r⟩ := paired_get h (i := i) (x := x) (by rw [List.getElem?_eq_getElem hi, e])
  exact ⟨y, List.mem_of_getElem? hy, r⟩
section
variable {P : Program} {w : World} {K : PySem.W.Frag} {mg : Str → Option Value} {base : Heap}
theorem pick_th {a c : Addr} {H0 H : Hp} {n : Int} {vs : List V} {us : List Th} {m : Nat} {ok : Addr → Prop} {Q : VK} {E : XK} (sr : Src H a n) (hn : n < 2 ^ 40) (fr : Fr (· ≠ a) H0 H) (oka : ∀ x, ok x → x ≠ a) (ca : c ≠ a) (hc : H c = some (.lst vs)) (hv : Paired (ThAt ok H m) vs us) (hl : us.length ≤ 1000) (h0 : us ≠ [])
    (q : ∀ H' v t, Fr (· ≠ a) H0 H' → Src H' a (n + 1) → ThAt ok H' m v t → t ∈ us → Q v H') : spLPick [.ref a, .ref c] H Q E :=
  ⟨a, c, vs, n, rfl, sr, hn, ca, hc, (fun e => by rw [e] at hv; cases hv; exact h0 rfl), by rw [paired_len hv]; omega, fun H' x f s hx => by
    obtain ⟨t, ht, r⟩ := paired_mem hv hx
    exact q H' x t (fr.trans f) s (r.to (KeepT.fr (f.mono oka) fun _ k => k)) ht⟩
end
end Ft
set_option Elab.async false
set_option linter.all false
set_option maxRecDepth 100000
set_option maxHeartbeats 1000000
set_option pp.maxSteps 3000
set_option pp.deepTerms.threshold 8
set_option Elab.async false
set_option linter.all false
set_option maxRecDepth 100000
set_option maxHeartbeats 1000000
set_option Elab.async false
set_option linter.all false
set_option maxRecDepth 100000
set_option maxHeartbeats 1000000
set_option Elab.async false
set_option linter.all false
set_option maxRecDepth 100000
set_option maxHeartbeats 1000000
set_option pp.maxSteps 3000
set_option pp.deepTerms.threshold 8
namespace Ft
open PySem L2
theorem rowT_plain {wi : Bool} {w : Str} {fs : List V} (h : plainOk wi w fs) : rowT wi (.sq (.at (.str w) :: fs.map .at)) = true ∧ blksT (.sq (.at (.str w) :: fs.map .at)) = [] := by
  obtain ⟨ks, hk, hp, hc⟩ := h
  have hf := plainT_fields _ hk
  have hw : (wi && (decide (w = "make") || decide (w = "call"))) = false := by
    cases wi with
    | false => rfl
    | true => rw [decide_eq_false (plainT_make _ hk), decide_eq_false (hc rfl)]; rfl
  have hl : (fs.map Th.at).length = (ks.map fun b => if b then ("word" : Str) else "number").length := by rw [List.length_map, List.length_map, paired_len hp]
  refine ⟨?_, ?_⟩
  · rw [rowT_word hf hw hl]
    clear hf hw hl hk hc
    induction hp with
    | nil => rfl
    | @cons k v ks fs r _ ih =>
      rw [List.map_cons, List.map_cons, List.zip_cons_cons, List.all_cons, ih, Bool.and_true]
      cases k with
      | true => cases v <;> first | exact r | cases r
      | false => cases v <;> first | rfl | cases r
  · rw [blksT_eq hf, List.filterMap_eq_nil_iff]
    intro p hp2
    have h1 := (List.of_mem_zip hp2).1
    obtain ⟨b, _, e⟩ := List.mem_map.mp h1
    unfold blkOfT
    have : p.1 ≠ "block" := by
      rw [← e]
      cases b <;> decide
    rw [if_neg this]
/-- a row with blocks: what stands ahead of them -/
def hdT : Row → List Th
  | .make n _ => [.at (.str "make"), .at (.str n)]
  | .when n _ _ => [.at (.str "when"), .at (.str n)]
  | .try_ _ _ => [.at (.str "try")]
  | .plain w fs => .at (.str w) :: fs.map .at
theorem hdT_row {d : Nat} {wi : Bool} {r : Row} (h : RowOk (d + 1) wi r) (hb : blocks r ≠ []) : toT (d + 1) r = .sq (hdT r ++ (blocks r).map fun b => .sq (b.map (toT d))) ∧ ∀ bs : List (List Th), bs.length = (blocks r).length → rowT wi (.sq (hdT r ++ bs.map .sq)) = true ∧ blksT (.sq (hdT r ++ bs.map .sq)) = bs ∧ wordOf (.sq (hdT r ++ bs.map .sq)) = rowWord r := by
  have fTry : fieldsOf "try" = some [("block" : Str), "block"] := by decide +kernel
  have fWhen : fieldsOf "when" = some [("word" : Str), "block", "block"] := by decide +kernel
  have fMake : fieldsOf "make" = some [("word" : Str), "block"] := by decide +kernel
  have nm : ∀ {z : Str}, z ≠ "make" → z ≠ "call" → (wi && (decide (z = "make") || decide (z = "call"))) = false := fun h1 h2 => by
    rw [decide_eq_false h1, decide_eq_false h2]; cases wi <;> rfl
  cases r with
  | plain w fs => exact absurd rfl hb
  | make n b =>
    refine ⟨rfl, fun bs hl => ?_⟩
    match bs, hl with
    | [x], _ =>
      refine ⟨?_, by show blksT (.sq (.at (.str "make") :: [.at (.str n), .sq x])) = _; rw [blksT_eq fMake]; rfl, rfl⟩
      show rowT wi (.sq (.at (.str "make") :: [.at (.str n), .sq x])) = true
      rw [rowT_word fMake (by rw [h.1]; rfl) rfl]
      show (isW n && (true && true)) = true
      rw [h.2.1]; rfl
  | when n b c =>
    refine ⟨rfl, fun bs hl => ?_⟩
    match bs, hl with
    | [x, y], _ =>
      refine ⟨?_, by show blksT (.sq (.at (.str "when") :: [.at (.str n), .sq x, .sq y])) = _; rw [blksT_eq fWhen]; rfl, rfl⟩
      show rowT wi (.sq (.at (.str "when") :: [.at (.str n), .sq x, .sq y])) = true
      rw [rowT_word fWhen (nm (by decide) (by decide)) rfl]
      show (isW n && (true && (true && true))) = true
      rw [h.1]; rfl
  | try_ b c =>
    refine ⟨rfl, fun bs hl => ?_⟩
    match bs, hl with
    | [x, y], _ =>
      refine ⟨?_, by show blksT (.sq (.at (.str "try") :: [.sq x, .sq y])) = _; rw [blksT_eq fTry]; rfl, rfl⟩
      show rowT wi (.sq (.at (.str "try") :: [.sq x, .sq y])) = true
      rw [rowT_word fTry (nm (by decide) (by decide)) rfl]
      rfl
theorem toT_ok : ∀ {d : Nat} {wi : Bool} {r : Row}, RowOk d wi r → ∀ (e : Nat) (p : List Int) (i : Nat), firstT e wi p (toT d r, i) = none := by
  have plain : ∀ {wi : Bool} {w : Str} {fs : List V}, plainOk wi w fs → ∀ (e : Nat) (p : List Int) (i : Nat), firstT e wi p (.sq (.at (.str w) :: fs.map .at), i) = none := fun h e p i => by
    obtain ⟨h1, h2⟩ := rowT_plain h
    rw [firstT_eq, if_pos h1, h2]
    rfl
  intro d
  induction d with
  | zero =>
    intro wi r h e p i
    cases r with
    | plain w fs => exact plain h e p i
    | _ => exact h.elim
  | succ d ih =>
    intro wi r h e p i
    by_cases hb : blocks r = []
    · cases r with
      | plain w fs => exact plain h e p i
      | make n b => cases hb
      | when n b c => cases hb
      | try_ b c => cases hb
    · obtain ⟨h1, h2⟩ := hdT_row h hb
      obtain ⟨g1, g2, g3⟩ := h2 ((blocks r).map fun b => b.map (toT d)) (by rw [List.length_map])
      have e0 : toT (d + 1) r = .sq (hdT r ++ ((blocks r).map fun b => b.map (toT d)).map .sq) := by rw [h1, List.map_map]; rfl
      rw [e0, firstT_eq, if_pos g1, g2, g3, List.findSome?_eq_none_iff]
      rintro ⟨b, j⟩ hq
      have hq2 := mem_zipIdx_fst hq
      obtain ⟨b0, hb0, eb⟩ := List.mem_map.mp hq2
      obtain ⟨e', he', _, hr⟩ := blk_ok h hb0
      obtain rfl : d = e' := Nat.succ.inj he'
      cases e with
      | zero => rfl
      | succ e =>
        show b.zipIdx.findSome? (firstT e _ _) = none
        rw [List.findSome?_eq_none_iff]
        rintro ⟨x, k⟩ hx
        have hx2 := mem_zipIdx_fst hx
        obtain rfl : b0.map (toT d) = b := eb
        obtain ⟨x0, hx0, ex⟩ := List.mem_map.mp hx2
        have ex : toT d x0 = x := ex
        rw [← ex]
        exact ih (hr x0 hx0) e _ k
end Ft
set_option Elab.async false
set_option linter.all false
set_option maxRecDepth 100000
set_option maxHeartbeats 4000000
set_option pp.maxSteps 1500
namespace Ft
open PySem PySem.Spec PyProof.Rows L2
/-- Fun.ok where the def's code object is known -/
theorem Fun.okC {P : PySem.Program} {w : World} {K : PySem.W.Frag} {mg : Str → Option Value} {base : Heap} {x qual : Str} {st : Stmt} {f c : Addr} {fd : FuncData} {N ps : List Str} {k : Nat} {sp : Sp} (F : Fun K x qual st f fd) (hc : fd.code = .ref c) (S : FnScope N ps (defScope st)) (len : ∀ vs H Q E, sp vs H Q E → vs.length = ps.length)
    (hbody : ∀ (A : Around) (outer : List Env) (s : Shared) (H : Hp) (vs : List V) (Q : VK) (E : XK), Room k (A.deeper (envOfC qual (defScope st) s.heap.objs.size f (.ref c))) → sp vs H Q E →
      ∃ t, PSs (cxOf CX0 P w K mg base N qual (defScope st) f (.ref c) A outer s H E).nox (defBody st) t ∧ t { nx := fun _ H' => Q .non H', rt := Q } (start N vs) H) : FnOk P w K mg base CX0 (k + 1) f fd ps sp := by
  obtain ⟨oc, od, kV, doc, pm, an, cdv, ct, osl, rfl, lk, hcd⟩ := F.ex
  obtain rfl : cdv = .ref c := hc
  refine fn_of lk hcd S len fun A outer s H vs Q E hr hsp => ?_
  obtain ⟨t, h, q⟩ := hbody A outer s H vs Q E hr hsp
  exact ⟨t, h.nox, q⟩
/-- the wish need hold only at slots of the right length -/
theorem takes_len {X : Cx} {W : WX} (tk : Takes X W) : Takes X (fun cls d σ H => σ.length = X.N.length → W cls d σ H) := fun u s' ⟨a, B, sI, pins, σ, H, cls, d, e, I, nb, up, sky, na, os, ag, w⟩ =>
  tk u s' ⟨a, B, sI, pins, σ, H, cls, d, e, I, nb, up, sky, na, os, ag, w I.len⟩
/-- x(), x the first parameter, a lambda got -/
theorem pe_actE {Z : Cx} {a q : Str} {f c' : Addr} {tl : XK → Hp → VK → Prop} {pn : List (Addr × Obj)} {xe : Value → Shared → Prop} {W : WX} {p1 p2 : Pos}
    (act : ∀ (W : WX) (pn : List (Addr × Obj)) (xe : Value → Shared → Prop) (E : XK) (p1 p2 : Pos), Takes (Z.tr pn xe) W → (∀ cls d σ' H', E cls d H' → W cls d σ' H') →
      PE (Z.tr pn xe) (.Call (.Name a p1) [] [] p2) (fun σZ HZ Q => σZ[0]? = some (some (.ref f)) ∧ HZ c' = some (LamX.CodeO c' q) ∧ tl E HZ Q)) (tk : Takes (Z.tr pn xe) W) :
    PE (Z.tr pn xe) (.Call (.Name a p1) [] [] p2) (fun σ H Q => ∃ E : XK, (∀ cls d σ' H', σ'.length = Z.N.length → E cls d H' → W cls d σ' H') ∧ σ[0]? = some (some (.ref f)) ∧ H c' = some (LamX.CodeO c' q) ∧ tl E H Q) :=
  ⟨fun pins s σ H Q I ⟨E, hW, h⟩ => (act (fun cls d σ H => σ.length = Z.N.length → W cls d σ H) pn xe E p1 p2 (takes_len tk) fun cls d σ' H' e hl => hW cls d σ' H' hl e).run pins s σ H Q I h⟩
/-- the lambda's body may raise what E says -/
theorem lam_takes {X : Cx} {A : Around} {outer : List Env} {s : Shared} {H : Hp} {E : XK} {scope : Scope} {f c' : Addr} : Takes (LamX.lamCx X A outer s H E scope f c') (fun cls d _ H => E cls d H) :=
  takes_of rfl rfl rfl rfl
/-- the law's own table -/
def noTabB (K : PySem.W.Frag) (fa : Addr) : Bool := match K.lookup fa with
  | some ⟨_, _, .func fd, _⟩ => (match fd.code with
    | .ref c => (match K.lookup c with
      | some ⟨_, _, .fields vs, _⟩ => (match (vs[11]? : Option Value) with
        | some (Value.ref P) => (K.lookup P).isNone
        | _ => false)
      | _ => false)
    | _ => false)
  | _ => false
theorem walk_ofOwnE {l : PySem.W.OpenLaw} {n k : Nat} {q : Program} {loose : List Str} {XP : (Str → Option Value) → Heap → Prop} {YP : World → Heap → Prop} {d : DefRec} {CX : World → CXT} {x : Str}
    (hn : l.most = some n) (hn2 : n ≤ sizeLine) (hdf : d.params.defaults = []) (hr : Room k callerA) (hrec : ((recsOf q).any fun e => e.name == d.name) = true)
    (F : ∀ (w : World) (mg : Str → Option Value) (fa : Addr) (h : Heap), YP w h → h.Ns mainGlobals mg → mg d.name = some (.ref fa) →
      (∃ (o : Obj) (fd : FuncData) (c P : Addr), h.get? fa = some o ∧ o.data = .func fd ∧ fd.code = .ref c ∧ PySem.W.CodeHd h c P ∧ h.get? P = some { cls := .none, data := .fields #[] }) → ∃ K : PySem.W.Frag, K.In h ∧ LamX.LawAtS l w K (CX w) k n x mg fa h)
    (hCX : ∀ (w : World) (H : Hp) (s : Shared) (e : Value) (s' : Shared), CX w [] H s (fun _ _ _ => False) e s' → False) :
    PySem.W.WalkO q loose XP YP l.row.toRowW d [] (fun f vs => PySem.call f vs) := by
  refine Att.attach_callB hn hdf fun w s₀ s₁ mg mb fa o pm cd doc a vs ns G Y ho hd hcd hmg hobj hints hlen hbits hg => ?_
  have own : ∃ (o : Obj) (fd : FuncData) (c P : Addr), s₁.heap.get? fa = some o ∧ o.data = .func fd ∧ fd.code = .ref c ∧ PySem.W.CodeHd s₁.heap c P ∧ s₁.heap.get? P = some { cls := .none, data := .fields #[] } := by
    obtain ⟨dL, hm, hn1⟩ := List.any_eq_true.mp hrec
    have hn2 : dL.name = d.name := beq_iff_eq.mp hn1
    obtain ⟨a', o', fd', c', P', h1, h2, h3, h4, h5, h6⟩ := G.T.tab dL hm
    rw [hn2, hmg] at h1
    cases h1
    exact ⟨o', fd', c', P', h2, h3, h4, PySem.W.CodeHd.of h5 h6, h6.2⟩
  obtain ⟨K, KX, fd, cs, sp, hT, nT, C, hb, hsp, hF⟩ := F w mg fa _ Y G.T.g hmg own
  exact LamX.law_callTs KX G.T.g G.T.b G.T.builtins G.T.nolimit hg hT nT C G.T.bmain hobj hints (Nat.le_trans hlen hn2) hr hF hb (fun H hH hS => hsp H a ns hlen hbits hH hS) fun H e s' => hCX w H s₁ e s'
end Ft
set_option Elab.async false
set_option linter.all false
set_option maxRecDepth 100000
set_option maxHeartbeats 4000000
set_option pp.maxSteps 2500
namespace Ft
open PySem L2
/-- what `_law_tried` makes of the reading of the lambda that it gets -/
def TTri (CP CW : Addr) : (XK → Hp → VK → Prop) → Hp → VK → Prop := fun tl H Q => ∀ p0, H p0 = none → ∃ E : XK,
  (∀ cls d H', E cls d H' → ∃ (dd : Addr), d = some dd ∧ ((cls = .ref CW ∧ ∃ v, H' dd = some (.xd [("word", v)]) ∧ ∀ p, H' p = none → Q (.ref p) (upd H' p (.tup [.str "word", v]))) ∨ (cls = .ref CP ∧ ∃ v u, H' dd = some (.xd [("path", u), ("module", v)]) ∧ ∀ p, H' p = none → Q (.ref p) (upd H' p (.tup [.str "program", v, u]))))) ∧
  ∀ R : VK, (∀ v H2, (∀ p, H2 p = none → Q (.ref p) (upd H2 p (.tup [.str "told", v]))) → R v H2) → tl E (upd H p0 (.tup [.str "odd"])) R
/-- the errors that `_law_tried` knows -/
structure Tri (P : PySem.Program) (w : World) (K : PySem.W.Frag) (mg : Str → Option Value) (base : Heap) (CP CT CW : Addr) : Prop where
  eP : ErrP P w K mg base CP
  eT : ErrT P w K mg base "BadText" "line" ["self", "line"] CT
  eW : ErrT P w K mg base "BadWord" "word" ["self", "word"] CW
  xPP : PySem.W.exmOne K (.ref CP) (.ref CP) = some true
  xWP : PySem.W.exmOne K (.ref CW) (.ref CP) = some false
  xWT : PySem.W.exmOne K (.ref CW) (.ref CT) = some false
  xWW : PySem.W.exmOne K (.ref CW) (.ref CW) = some true
abbrev sLTried : Stmt := topS 44
theorem scLTried : FnScope ["_law_deed", "_law_found", "e"] ["_law_deed"] (defScope sLTried) := ⟨rfl, rfl, rfl, by decide +kernel, rfl, by decide +kernel, by decide +kernel⟩
theorem tried_gives {X : Cx} {CP CT CW g : Addr} {cdg : Value} {q : Str} (T : Tri X.prog X.w X.K X.mg X.base CP CT CW) :
    LamX.GivesTo X ["_law_deed", "_law_found", "e"] "_law_tried" (defScope sLTried) g cdg (defBody sLTried) "_law_deed" q (TTri CP CW) := by
  intro f c' s H Q tl act hc h
  have eP := T.eP
  have eT := T.eT
  have eW := T.eW
  refine ⟨_, (pss_cons (ps_set (i := 1) scLTried.nd rfl (by first | exact Or.inl rfl | exact Or.inr rfl) (pe_tup (pa_cons pe_str pa_nil)))
      (pss_cons (ps_try_asM rfl rfl scLTried.nd L2.takes0 (fun W pn xe tk _ => by exact (pss_one (ps_set (i := 1) scLTried.nd rfl (by first | exact Or.inl rfl | exact Or.inr rfl) (pe_tup (pa_cons pe_str (pa_cons (pe_actE act tk) pa_nil)))))) (.cons (i := 2) rfl rfl ⟨rfl, by decide, .inl eP.g⟩ (fun a oe cls d pn hz hf => by exact (pss_one (ps_set (i := 1) scLTried.nd rfl (by first | exact Or.inl rfl | exact Or.inr rfl) (pe_tup (pa_cons pe_str (pa_cons (pe_xf eP.xf eP.nM hz hf (pv 2)) (pa_cons (pe_xf eP.xf eP.nP hz hf (pv 2)) pa_nil))))))) (.cons (i := 2) rfl rfl ⟨rfl, by decide, .inl eT.g⟩ (fun a oe cls d pn hz hf => by exact (pss_one (ps_set (i := 1) scLTried.nd rfl (by first | exact Or.inl rfl | exact Or.inr rfl) (pe_tup (pa_cons pe_str (pa_cons (pe_xf eT.xf eT.nF hz hf (pv 2)) pa_nil)))))) (.cons (i := 2) rfl rfl ⟨rfl, by decide, .inl eW.g⟩ (fun a oe cls d pn hz hf => by exact (pss_one (ps_set (i := 1) scLTried.nd rfl (by first | exact Or.inl rfl | exact Or.inr rfl) (pe_tup (pa_cons pe_str (pa_cons (pe_xf eW.xf eW.nF hz hf (pv 2)) pa_nil)))))) .nil))))
      (pss_one (ps_ret (pv 1))))), ?_⟩
  refine ⟨(by show 1 ≤ sizeLine; decide), fun p0 n0 => ?_⟩
  obtain ⟨E, hE, ht⟩ := h p0 n0
  have s1 := Same.new n0 (o := .tup [.str "odd"])
  refine ⟨E, fun cls d σ' H' hl e => ?_, rfl, s1 _ _ hc, ht _ fun v H2 k => ⟨(by show 2 ≤ sizeLine; decide), fun p np => ⟨_, rfl, k p np⟩⟩⟩
  obtain ⟨x, y, z, rfl⟩ : ∃ x y z, σ' = [x, y, z] := by
    have hl : σ'.length = 3 := hl
    match σ', hl with
    | [x, y, z], _ => exact ⟨x, y, z, rfl⟩
  obtain ⟨dd, rfl, ⟨rfl, v, h1, k⟩ | ⟨rfl, v, u, h1, k⟩⟩ := hE cls d H' e
  · refine .inr ⟨T.xWP, .inr ⟨T.xWT, .inl ⟨T.xWW, fun a na => ?_⟩⟩⟩
    refine ⟨_, rfl, rfl, rfl, dd, _, v, rfl, h1, rfl, (by show 2 ≤ sizeLine; decide), fun p np => ⟨_, rfl, k p np⟩⟩
  · refine .inl ⟨T.xPP, fun a na => ?_⟩
    refine ⟨_, rfl, rfl, rfl, dd, _, v, rfl, h1, rfl, ?_⟩
    refine ⟨_, rfl, rfl, rfl, dd, _, u, rfl, h1, rfl, (by show 3 ≤ sizeLine; decide), fun p np => ⟨_, rfl, k p np⟩⟩
/-- _law_tried(lambda: body) -/
theorem pe_tried (qn : Str) {X : Cx} {CP CT CW g c Pt : Addr} {fd : FuncData} {k : Nat} {params : Arguments} {body : Expr} {scope : Scope} {t : XK → TE} {p lpos pos : Pos} (F : Fun X.K "_law_tried" "_law_tried" sLTried g fd) (m : X.mg "_law_tried" = some (.ref g)) (b : Binds X.K fd ["_law_deed"] [])
    (T : Tri X.prog X.w X.K X.mg X.base CP CT CW)
    (TB : LamX.TabB X.base X.mg c Pt) (hcode : X.env.code = .ref c) (hq : X.env.qual ++ "<lambda>" = qn) (hr : Room (k + 2) X.A) (L : LamX.LamS X.env.scope scope) (hdef : defaultsOf params X.env = ([], []))
    (hbind : ∀ (q : Str) (cl : List (Str × Addr)) (pm cv ctv : Value), bindArgs (PySem.W.kla_fn "<lambda>" q params body scope cl pm cv ctv) ⟨[], []⟩ = pure [])
    (hbody : ∀ (A : Around) (outer : List Env) (s : Shared) (H : Hp) (E : XK) (f c' : Addr), Room k (A.deeper (LamX.lamEnv X scope s.heap.objs.size f c')) → PE (LamX.lamCx X A outer s H E scope f c') body (t E)) (hg : Gl X "_law_tried" := by rfl) :
    PE X (.Call (.Name "_law_tried" p) [.Lambda params body scope lpos] [] pos) (LamX.tLam [(Pt, qn)] (TTri CP CW) t) := by
  obtain ⟨oc, od, kV, doc, pm, an, cdv, ct, osl, rfl, lk, hcd⟩ := F.ex
  subst hq
  exact LamX.pe_lamcall (Ng := ["_law_deed", "_law_found", "e"]) (a := "_law_deed") hg m F.kp lk hcd b scLTried rfl (.inl rfl) (tried_gives T) TB hcode (List.mem_singleton.mpr rfl) (fun q hq _ => by rw [List.mem_singleton.mp hq]) hr L hdef hbind hbody
end Ft
set_option Elab.async false
set_option linter.all false
set_option maxRecDepth 100000
set_option maxHeartbeats 1000000
set_option pp.maxSteps 3000
set_option pp.deepTerms.threshold 8
namespace Ft
open PySem L2
theorem ext_same0 {H H' H2 : Hp} (e : LamX.ExtN H H') (s : Same H' H2) : LamX.ExtN H H2 := fun b o q n => s _ _ (e _ _ q n)
section
variable {T : List (Addr × Str)} {CP CW : Addr} {H : Hp} {σ : L2.St} {Q : VK} {body : XK → TE}
theorem tried_bad {u : V} {y : List Int} (hu : isAtom u = true) (hy : y.length ≤ 1000) (tb : LamX.Tabs T H) (hb : ∀ (H2 : Hp) (R : VK) (E : XK), LamX.ExtN H H2 → XBadV CP u y H2 E → body E σ H2 R) (q : ∀ H' p, LamX.ExtN H H' → LamX.Tabs T H' → DtAt H' 11 (.ref p) (badVT u y) → Q (.ref p) H') :
    LamX.tLam T (TTri CP CW) body σ H Q := by
  refine ⟨tb, fun H1 e1 t1 p0 n0 => ?_⟩
  have s0 := Same.new n0 (o := .tup [.str "odd"])
  generalize upd H1 p0 _ = H2 at *
  have e2 : LamX.ExtN H H2 := ext_same0 e1 s0
  refine ⟨fun cls d H' => ∃ dd v, cls = .ref CP ∧ d = some dd ∧ Same H2 H' ∧ PathAt H' v y ∧ H' dd = some (.xd [("path", v), ("module", u)]), fun cls d H' ⟨dd, v, e1, e2', s, hv, h⟩ => ?_, fun R hR => ?_⟩
  · subst e1 e2'
    refine ⟨dd, rfl, .inr ⟨rfl, _, v, h, fun p np => ?_⟩⟩
    have s1 := Same.new np (o := .tup [.str "program", u, v])
    have s3 := Same.trans s s1
    refine q _ p (ext_same0 e2 s3) (t1.ext (Same.trans s0 s3)) ⟨p, _, rfl, upd_same, by show 3 ≤ 16000000; decide, .cons ⟨rfl, rfl⟩ (.cons ⟨rfl, hu⟩ (.cons ?_ .nil))⟩
    exact path_dt (hv.to fun b xs e => s1 _ _ e) hy
  · exact hb H2 _ _ e2 fun H3 d v s hv nd => ⟨d, v, rfl, rfl, Same.trans s (Same.new nd), hv.to fun b xs e => Same.new nd _ _ e, upd_same⟩
theorem tried_good {t : DT} (tb : LamX.Tabs T H) (hb : ∀ (H2 : Hp) (R : VK) (E : XK), LamX.ExtN H H2 → (∀ v H3, Same H2 H3 → DtAt H3 10 v t → R v H3) → body E σ H2 R) (q : ∀ H' p, LamX.ExtN H H' → LamX.Tabs T H' → DtAt H' 11 (.ref p) (.sq false [.at (.str "told"), t]) → Q (.ref p) H') :
    LamX.tLam T (TTri CP CW) body σ H Q := by
  refine ⟨tb, fun H1 e1 t1 p0 n0 => ?_⟩
  have s0 := Same.new n0 (o := .tup [.str "odd"])
  generalize upd H1 p0 _ = H2 at *
  have e2 : LamX.ExtN H H2 := ext_same0 e1 s0
  refine ⟨fun _ _ _ => False, fun cls d H' h => h.elim, fun R hR => hb H2 _ _ e2 fun v H3 s3 hv => hR v H3 fun p np => ?_⟩
  have s1 := Same.new np (o := .tup [.str "told", v])
  have s4 := Same.trans s3 s1
  refine q _ p (ext_same0 e2 s4) (t1.ext (Same.trans s0 s4)) ⟨p, _, rfl, upd_same, by show 2 ≤ 16000000; decide, .cons ⟨rfl, rfl⟩ (.cons (hv.to fun a kd xs e => s1 _ _ e) .nil)⟩
end
theorem KeepT.keep {ok ok' : Addr → Prop} {H H' : Hp} (t : KeepT ok ok' H H') : Keep ok ok' H H' := fun x kd xs k e => t x _ k mkO_nt e
/-- a module whose rows are rows -/
def OrigM (ok : Addr → Prop) (H : Hp) (v : V) (t : Th) : Prop := ∃ rs, RowsAt ok lawK H 3 v rs ∧ (∀ r ∈ rs, RowOk 3 false r) ∧ rs.length ≤ 24 ∧ t = .sq (rs.map (toT 3))
theorem OrigM.to {ok ok' : Addr → Prop} {H H' : Hp} {v : V} {t : Th} (h : OrigM ok H v t) (k : KeepT ok ok' H H') : OrigM ok' H' v t := by
  obtain ⟨rs, h1, h2, h3, h4⟩ := h
  exact ⟨rs, h1.to k.keep, h2, h3, h4⟩
structure MInv (ok : Addr → Prop) (H : Hp) (c : Nat) (kv : Key × V) (m : Str × Th) : Prop where
  key : kv.1 = Sum.inr m.1
  lst : ∃ l xs ts, kv.2 = .ref l ∧ ok l ∧ H l = some (.lst xs) ∧ m.2 = .sq ts ∧ Paired (ThAt ok H 9) xs ts ∧ ts.length ≤ 24 + c
  sz : szT m.2 ≤ 600000 + 300 * c
  word : isW m.1 = true
  or : OrigM ok H kv.2 m.2 ∨ badM m ≠ none
theorem MInv.to {ok ok' : Addr → Prop} {H H' : Hp} {c c' : Nat} {kv : Key × V} {m : Str × Th} (h : MInv ok H c kv m) (hc : c ≤ c') (k : KeepT ok ok' H H') : MInv ok' H' c' kv m := by
  obtain ⟨l, xs, ts, e, okl, hl, et, hx, len⟩ := h.lst
  obtain ⟨okl', hl'⟩ := k l (.lst xs) okl (fun ps z => nomatch z) hl
  exact ⟨h.key, ⟨l, xs, ts, e, okl', hl', et, paired_imp hx fun _ _ q => q.to k, by omega⟩, by have := h.sz; omega, h.word, h.or.imp_left fun o => o.to k⟩
structure FInv (ok : Addr → Prop) (H : Hp) (kv : Key × V) (m : Str × Th) : Prop where
  key : kv.1 = Sum.inr m.1
  th : ThAt ok H 10 kv.2 m.2
  sz : szT m.2 ≤ 700000
  len : m.1.length ≤ 9
  or : (isW m.1 = true ∧ OrigM ok H kv.2 m.2) ∨ isW m.1 = false ∨ badM m ≠ none
theorem FInv.to {ok ok' : Addr → Prop} {H H' : Hp} {kv : Key × V} {m : Str × Th} (h : FInv ok H kv m) (k : KeepT ok ok' H H') : FInv ok' H' kv m :=
  ⟨h.key, h.th.to k, h.sz, h.len, h.or.imp_left fun o => ⟨o.1, o.2.to k⟩⟩
def putG {β : Type} (lib : List (Str × β)) (z : Str) (t : β) : List (Str × β) := if (lib.any fun m => decide (m.1 = z)) = true then lib.map (fun m => if m.1 = z then (m.1, t) else m) else lib ++ [(z, t)]
theorem paired_put {β : Type} {R : Key × V → Str × β → Prop} (hk : ∀ kv m, R kv m → kv.1 = Sum.inr m.1) {kvs : List (Key × V)} {lib : List (Str × β)} {z : Str} {v : V} {t : β} (h : Paired R kvs lib) (hr : R (Sum.inr z, v) (z, t)) : Paired R (putK kvs (Sum.inr z) v) (putG lib z t) := by
  have ea : (kvs.any fun kv => decide (kv.1 = Sum.inr z)) = (lib.any fun m => decide (m.1 = z)) := by
    clear hr
    induction h with
    | nil => rfl
    | @cons kv m _ _ r _ ih =>
      rw [List.any_cons, List.any_cons, ih, hk _ _ r]
      congr 1
      exact decide_eq_decide.mpr ⟨fun e => Sum.inr.inj e, fun e => by rw [e]⟩
  unfold putK putG
  rw [ea]
  split
  · rename_i hh
    clear ea hh
    induction h with
    | nil => exact .nil
    | @cons kv m _ _ r _ ih =>
      refine .cons ?_ ih
      dsimp only
      by_cases e : m.1 = z
      · have e2 : kv.1 = Sum.inr z := by rw [hk _ _ r, e]
        rw [if_pos e, if_pos e2, e2, e]
        exact hr
      · have e2 : ¬ kv.1 = Sum.inr z := by rw [hk _ _ r]; exact fun q => e (Sum.inr.inj q)
        rw [if_neg e, if_neg e2]
        exact r
  · exact paired_app hr h
theorem putG_keys {β : Type} (lib : List (Str × β)) (z : Str) (t : β) : (putG lib z t).map (·.1) = if z ∈ lib.map (·.1) then lib.map (·.1) else lib.map (·.1) ++ [z] := by
  unfold putG
  have ea : ((lib.any fun m => decide (m.1 = z)) = true) ↔ z ∈ lib.map (·.1) := by
    rw [List.any_eq_true]
    constructor
    · rintro ⟨m, hm, e⟩
      have e' : m.1 = z := of_decide_eq_true e
      exact List.mem_map.mpr ⟨m, hm, e'⟩
    · intro h
      obtain ⟨m, hm, e⟩ := List.mem_map.mp h
      exact ⟨m, hm, decide_eq_true e⟩
  by_cases c : z ∈ lib.map (·.1)
  · rw [if_pos (ea.mpr c), if_pos c, List.map_map]
    refine List.map_congr_left fun m _ => ?_
    show (if m.1 = z then (m.1, t) else m).1 = m.1
    split <;> rfl
  · rw [if_neg (fun h => c (ea.mp h)), if_neg c, List.map_append]
    rfl
theorem putG_nd {β : Type} {lib : List (Str × β)} {z : Str} {t : β} (h : (lib.map (·.1)).Nodup) : ((putG lib z t).map (·.1)).Nodup := by
  rw [putG_keys]
  split
  · exact h
  · rename_i c
    rw [List.nodup_append]
    refine ⟨h, by simp, fun x hx y hy e => c ?_⟩
    rw [List.mem_singleton.mp hy] at e
    rw [← e]; exact hx
theorem putG_in {β : Type} {lib : List (Str × β)} {z : Str} {t : β} (h : z ∈ lib.map (·.1)) : (putG lib z t).map (·.1) = lib.map (·.1) := by rw [putG_keys, if_pos h]
theorem szTs_map {f : Row → Th} {S : Nat} : ∀ {rs : List Row}, (∀ r ∈ rs, szT (f r) ≤ S) → szTs (rs.map f) ≤ rs.length * S
  | [], _ => by show 0 ≤ _; omega
  | r :: rs, h => by
    have h1 := h r (by simp)
    have h2 := szTs_map (f := f) (S := S) (rs := rs) fun x hx => h x (by simp [hx])
    show szT (f r) + szTs (rs.map f) ≤ (rs.length + 1) * S
    rw [Nat.add_mul]
    omega
def szD : Nat → Nat
  | 0 => 5
  | d + 1 => 5 + 16 * szD d
theorem sz_row : ∀ {d : Nat} {wi : Bool} {r : Row}, RowO8 d wi r → szT (toT d r) ≤ szD d := by
  have plain : ∀ {wi : Bool} {w : Str} {fs : List V}, plainOk wi w fs → szT (.sq (.at (.str w) :: fs.map .at)) ≤ 5 := fun h => by
    obtain ⟨_, _, h3⟩ := plain_small h
    have go : ∀ fs : List V, szTs (fs.map Th.at) = fs.length := fun fs => by
      induction fs with
      | nil => rfl
      | cons v fs ih => show 1 + szTs (fs.map Th.at) = fs.length + 1; omega
    rw [szT_sq]
    show 1 + (1 + szTs _) ≤ 5
    rw [go]
    omega
  have pos : ∀ d, 5 ≤ szD d := fun d => by cases d <;> simp [szD]
  intro d
  induction d with
  | zero =>
    intro wi r h
    cases r with
    | plain w fs => exact plain h
    | _ => exact h.elim
  | succ d ih =>
    intro wi r h
    have blk : ∀ {b : List Row} {wi : Bool}, b.length ≤ 8 → (∀ r ∈ b, RowB 8 d wi r) → szTs (b.map (toT d)) ≤ 8 * szD d := fun {b wi} hl hr =>
      Nat.le_trans (szTs_map fun r hm => ih (hr r hm)) (Nat.mul_le_mul_right _ hl)
    have e : szD (d + 1) = 5 + 16 * szD d := rfl
    cases r with
    | plain w fs => exact Nat.le_trans (plain h) (pos _)
    | make n b =>
      have h1 := blk h.2.2.1 h.2.2.2
      show 1 + (1 + (1 + (1 + szTs (b.map (toT d)) + 0))) ≤ _
      omega
    | when n b c =>
      have h1 := blk h.2.1 h.2.2.2.1
      have h2 := blk h.2.2.1 h.2.2.2.2
      show 1 + (1 + (1 + (1 + szTs (b.map (toT d)) + (1 + szTs (c.map (toT d)) + 0)))) ≤ _
      omega
    | try_ b c =>
      have h1 := blk h.1 h.2.2.1
      have h2 := blk h.2.1 h.2.2.2
      show 1 + (1 + (1 + szTs (b.map (toT d)) + (1 + szTs (c.map (toT d)) + 0))) ≤ _
      omega
theorem sortG (lib : LibT) : ∃ libS : LibT, libS.Perm lib ∧ PyProof.Rows.sortedS (libS.map (·.1)) = true := by
  obtain ⟨h1, h2⟩ := strs_sorted (lib.map (·.1))
  obtain ⟨rest, e, p⟩ := permG h1 lib rfl
  exact ⟨rest, p, by rw [e]; exact h2⟩
/-- what is handed in, right -/
theorem libAt_of {ok : Addr → Prop} {H : Hp} {m : Nat} : ∀ {kvs : List (Key × V)} {lib0 : Lib}, LibTAt ok H m kvs (lib0.map fun x => (x.1, Th.sq (x.2.map (toT 3)))) → (∀ x ∈ lib0, ∀ r ∈ x.2, RowOk 3 false r) → LibAt ok anyK H kvs lib0
  | [], [], _, _ => .nil
  | kv :: kvs, [], h, _ => by cases h
  | [], x :: lib0, h, _ => by cases h
  | kv :: kvs, x :: lib0, h, hr => by
    cases h with
    | cons r t =>
      refine .cons ⟨r.1, ?_⟩ (libAt_of t fun y hy => hr y (by simp [hy]))
      obtain ⟨m', a, kd, xs, _, e, k, ha, _, hx⟩ := thAt_sq r.2
      exact ⟨xs, ⟨a, kd, e, k, trivial, ha⟩, paired_impM (paired_mapT' hx) fun v r hr2 q => th_row 3 false m' v r (hr x (by simp) r hr2) q⟩
end Ft
set_option Elab.async false
set_option linter.all false
set_option maxRecDepth 100000
set_option maxHeartbeats 4000000
namespace Ft
open PySem L2
def LibP (ok okR : Addr → Prop) (H : Hp) (kvs : List (Key × V)) (lib : Lib) : Prop := Paired (fun (kv : Key × V) (m : Str × List Row) => kv.1 = Sum.inr m.1 ∧ ∃ l xs, kv.2 = .ref l ∧ ok l ∧ H l = some (.lst xs) ∧ Paired (RowAt okR lawK H 3) xs m.2) kvs lib
theorem LibP.to {ok ok' okR okR' : Addr → Prop} {H H' : Hp} {kvs : List (Key × V)} {lib : Lib} (h : LibP ok okR H kvs lib) (t : Keep ok ok' H H') (tR : Keep okR okR' H H') : LibP ok' okR' H' kvs lib := paired_imp h fun _ _ ⟨e, l, xs, e1, k, hl, hx⟩ => ⟨e, l, xs, e1, (t l true xs k hl).1, (t l true xs k hl).2, paired_imp hx fun _ _ q => q.to tR⟩
theorem LibP.at {ok okR : Addr → Prop} {H : Hp} {kvs : List (Key × V)} {lib : Lib} (h : LibP ok okR H kvs lib) (hk : ∀ x, okR x → ok x) : LibAt ok lawK H kvs lib := paired_imp h fun _ _ ⟨e, l, xs, e1, k, hl, hx⟩ => ⟨e, xs, ⟨l, true, e1, k, rfl, hl⟩, paired_imp hx fun _ _ q => q.to (Keep.mono fun x k _ => hk x k)⟩
/-- no module's list -/
def noTop (kvs : List (Key × V)) (x : Addr) : Prop := V.ref x ∉ kvs.map (·.2)
theorem put_vals {kvs : List (Key × V)} {k : Key} {v u : V} (h : u ∈ (putK kvs k v).map (·.2)) : u = v ∨ u ∈ kvs.map (·.2) := by
  obtain ⟨kv, hkv, e⟩ := List.mem_map.mp h
  unfold putK at hkv
  split at hkv
  · obtain ⟨kv0, h0, e0⟩ := List.mem_map.mp hkv
    split at e0
    · subst e0; exact .inl e.symm
    · subst e0; exact .inr (List.mem_map.mpr ⟨kv0, h0, e⟩)
  · rcases List.mem_append.mp hkv with h | h
    · exact .inr (List.mem_map.mpr ⟨kv, h, e⟩)
    · rw [List.mem_singleton.mp h] at e
      exact .inl e.symm
theorem put_nd {kvs : List (Key × V)} {k : Key} {v : V} (hk : (kvs.map (·.1)).Nodup) (h : (kvs.map (·.2)).Nodup) (hv : v ∉ kvs.map (·.2)) : ((putK kvs k v).map (·.2)).Nodup := by
  unfold putK
  split
  · rename_i hh
    clear hh
    induction kvs with
    | nil => simp
    | cons kv kvs ih =>
      rw [List.map_cons, List.nodup_cons] at hk h
      rw [List.map_cons, List.mem_cons, not_or] at hv
      rw [List.map_cons, List.map_cons, List.nodup_cons]
      refine ⟨fun hm => ?_, ih hk.2 h.2 hv.2⟩
      obtain ⟨kv1, h1, e1⟩ := List.mem_map.mp hm
      obtain ⟨kv0, h0, e0⟩ := List.mem_map.mp h1
      by_cases c0 : kv.1 = k
      · rw [if_pos c0] at e1
        by_cases c1 : kv0.1 = k
        · exact hk.1 (List.mem_map.mpr ⟨kv0, h0, c1.trans c0.symm⟩)
        · rw [if_neg c1] at e0
          subst e0
          exact hv.2 (List.mem_map.mpr ⟨_, h0, e1⟩)
      · rw [if_neg c0] at e1
        by_cases c1 : kv0.1 = k
        · rw [if_pos c1] at e0
          subst e0
          exact hv.1 e1
        · rw [if_neg c1] at e0
          subst e0
          exact h.1 (List.mem_map.mpr ⟨_, h0, e1⟩)
  · rw [List.map_append, List.nodup_append]
    refine ⟨h, by simp, fun x hx y hy e => ?_⟩
    rw [List.mem_singleton.mp hy] at e
    obtain rfl : x = v := e
    exact hv hx
theorem libP_top {ok okR : Addr → Prop} {H : Hp} {kvs : List (Key × V)} {lib : Lib} (h : LibP ok okR H kvs lib) {x : Addr} (hx : V.ref x ∈ kvs.map (·.2)) : ok x ∧ ∃ xs, H x = some (.lst xs) := by
  obtain ⟨kv, hkv, e⟩ := List.mem_map.mp hx
  obtain ⟨m, _, _, l, xs, e1, k, hl, _⟩ := paired_mem h hkv
  rw [e1] at e
  obtain rfl : l = x := V.ref.inj e
  exact ⟨k, xs, hl⟩
theorem Keep.and {ok ok' p : Addr → Prop} {H H' : Hp} (h : Keep ok ok' H H') : Keep (fun x => ok x ∧ p x) (fun x => ok' x ∧ p x) H H' := fun x kd xs k e => ⟨⟨(h x kd xs k.1 e).1, k.2⟩, (h x kd xs k.1 e).2⟩
section
variable {P : Program} {w : World} {K : PySem.W.Frag} {mg : Str → Option Value} {base : Heap}
def spLLibraryP : Sp := fun vs H Q _ => ∃ (a : Addr) (n : Int), vs = [.ref a] ∧ Src H a n ∧ n < 2 ^ 30 ∧
  ∀ H' p kvs lib n', Fr (· ≠ a) H H' → Src H' a n' → n ≤ n' → n' ≤ n + 200000 → H p = none → H' p = some (.dK kvs) → LibP (fun x => H x = none ∧ x ≠ p) (fun x => (H x = none ∧ x ≠ p) ∧ noTop kvs x) H' kvs lib → (kvs.map (·.2)).Nodup → 0 < lib.length → LibOk lib → Q (.ref p) H'
theorem ok_LLibraryP {f : Addr} {fd : FuncData} {k : Nat} (F : Fun K "_law_library" "_law_library" sLLibrary f fd) (B : Bl mg) (hk : 11 ≤ k) (gLDraw : Own P w K mg base 1 "_law_draw" ["_law_source_here", "_law_many"] spLDraw)
    (gLWord : Own P w K mg base 3 "_law_word" ["_law_source_here"] spLWord) (gLRow : Own P w K mg base 11 "_law_row" ["_law_source_here", "_law_budget", "_law_deep", "_law_in_make"] (spLRow 3)) : FnOk P w K mg base CX0 (k + 1) f fd ["_law_source_here"] spLLibraryP := by
  refine F.ok scLLibrary (fun vs H Q E h => ?_) (fun cdv A outer s H vs Q E hr h => ?_)
  · obtain ⟨a, n, rfl, _⟩ := h
    rfl
  obtain ⟨a, n, rfl, hs, hn, q⟩ := h
  refine ⟨_, (pss_cons (ps_par (i := 1) (j := 2) (by rfl) scLLibrary.nd rfl rfl (by decide) rfl rfl (pa_cons pe_dnewK (pa_cons (pe_lst (pa_cons pe_int (pa_cons pe_int pa_nil))) pa_nil)) (by rfl))
      (pss_cons (ps_for PassesOwn.never rfl (pi_range1 (by rfl) B.range (pa_cons (pe_op op_add pe_int (pe_own gLDraw (hr.mono (by omega)) (by rfl) (pa_cons (pv 0) (pa_cons pe_int pa_nil)))) pa_nil)) (pg_name (i := 3) scLLibrary.nd rfl (by first | exact Or.inl rfl | exact Or.inr rfl)) (pss_cons (ps_set (i := 4) scLLibrary.nd rfl (by first | exact Or.inl rfl | exact Or.inr rfl) (pe_lst pa_nil))
      (pss_cons (ps_for PassesOwn.never rfl (pi_range1 (by rfl) B.range (pa_cons (pe_own gLDraw (hr.mono (by omega)) (by rfl) (pa_cons (pv 0) (pa_cons pe_int pa_nil))) pa_nil)) (pg_name (i := 5) scLLibrary.nd rfl (by first | exact Or.inl rfl | exact Or.inr rfl)) (pss_one (ps_if (pt_cmpR op_gt (pe_ix ix_list (pv 2) pe_int (fun _ _ => rfl)) pe_int (nomark _)) (pss_one (ps_expr (pe_bm PySem.F.plainAttrs_list PySem.F.slot_list_append PySem.F.type_list_append mt_append (pv 4) (pa_cons (pe_own gLRow (hr.mono (by omega)) (by rfl) (pa_cons (pv 0) (pa_cons (pv 2) (pa_cons pe_int (pa_cons pe_bl pa_nil))))) pa_nil)))) pss_nil)))
      (pss_one (ps_dput (hu_of hr) (pv 1) (pe_own gLWord (hr.mono (by omega)) (by rfl) (pa_cons (pv 0) pa_nil)) (pv 4) rfl)))))
      (pss_one (ps_ret (pv 1))))), ?_⟩
  have c3 : cRow 3 = 4826 := by decide
  refine fun dd nd => ⟨(by show 2 ≤ sizeLine; decide), fun u nu => ⟨_, _, rfl, ?_⟩⟩
  have du : u ≠ dd := fun e => by rw [e, upd_same] at nu; cases nu
  have nuH : H u = none := by rw [upd_ne du] at nu; exact nu
  -- the heap without the dict
  have s1 : Src (upd H u (.lst [.int 24, .int 6])) a n := hs.new nuH
  have nd1 : (upd H u (.lst [.int 24, .int 6])) dd = none := by rw [upd_ne du.symm]; exact nd
  have fr0 : Fr (fun _ => True) H (upd H u (.lst [.int 24, .int 6])) := Fr.new nuH
  generalize hG : upd (upd H dd _) u _ = G
  have pG : Pr (upd H u (.lst [.int 24, .int 6])) a u n 0 G := by
    rw [← hG]
    refine ⟨fun x o kx e => ?_, n, 24, 6, by omega, by omega, (hs.new nd).new (by rw [upd_ne du]; exact nuH), upd_same⟩
    rw [upd_ne kx.2] at e ⊢
    rw [upd_ne (ne_of_none e nd)]; exact e
  have dG : G dd = some (.dK []) := by rw [← hG, upd_ne du.symm]; exact upd_same
  have u1 : (upd H u (.lst [.int 24, .int 6])) u = some (.lst [.int 24, .int 6]) := upd_same
  have nfree : ∀ {x}, (upd H u (.lst [.int 24, .int 6])) x = none → H x = none := fun {x} e => by
    by_cases c : x = u
    · rw [c, upd_same] at e; cases e
    · rw [upd_ne c] at e; exact e
  generalize upd H u (.lst [.int 24, .int 6]) = H1 at s1 nd1 fr0 pG u1 nfree
  -- how many modules
  obtain ⟨n1, h1, h2, sr1, go1⟩ := pG.draws (c2 := 1)
  refine ⟨_, rfl, a, 4, n1, rfl, sr1, by omega, by decide, by decide, fun H2 j f2 sr2 j0 j1 => ⟨1, j, rfl, rfl, 1 + j, rfl, by omega, by omega, ?_⟩⟩
  have p2 : Pr H1 a u n (0 + 1) H2 := go1 f2 sr2 (by omega) (by omega)
  have ad : dd ≠ a := (s1.nn nd1)
  have dan : dd ≠ a ∧ dd ≠ u := (Pr.start s1 u1).an nd1
  refine for_it (walk_range (lo := 0) (n := (1 + j).toNat)) (fun i σ H' => ∃ v3 v4 v5, σ = [some (.ref a), some (.ref dd), some (.ref u), v3, v4, v5] ∧ Pr H1 a u n (1 + i * cMod) H' ∧
      ∃ kvs lib, H' dd = some (.dK kvs) ∧ LibP (fun x => H1 x = none ∧ x ≠ dd) (fun x => (H1 x = none ∧ x ≠ dd) ∧ noTop kvs x) H' kvs lib ∧ (kvs.map (·.2)).Nodup ∧ lib.length ≤ i ∧ (0 < i → 0 < lib.length) ∧ (lib.map (·.1)).Nodup ∧ ∀ m ∈ lib, isW m.1 = true ∧ m.2.length ≤ 8 ∧ ∀ r ∈ m.2, RowO8 3 false r)
    ⟨none, none, none, rfl, p2.le (by omega), [], [], f2 _ _ ad dG, .nil, by simp, by simp, by simp, by simp, by simp⟩ (fun _ _ _ _ _ => trivial) ?_ ?_
  · rintro i x σ H3 H4 hi ⟨v3, v4, v5, rfl, p4, kvs, lib, hd, hlib, hvn, hlen, hpos, hnd, hall⟩ ⟨rfl, rfl⟩
    have i3 : (i : Int) ≤ 3 := by omega
    have ib : (i : Int) * cMod ≤ 3 * cMod := Int.mul_le_mul_of_nonneg_right i3 (by decide)
    have cm : cMod = 38610 := by decide
    have ei : (((i + 1 : Nat) : Int)) * cMod = i * cMod + cMod := by
      rw [show (((i + 1 : Nat) : Int)) = (i : Int) + 1 by omega, Int.add_mul, Int.one_mul]
    refine ⟨Nat.zero_le _, fun l nl => ?_⟩
    have nlH : H1 l = none := p4.free nl
    have lan : l ≠ a ∧ l ≠ u := p4.an nl
    have ld : l ≠ dd := fun e => by rw [e, hd] at nl; cases nl
    have p5 : Pr H1 a u n (1 + i * cMod) (upd H4 l (.lst [])) := p4.new nl
    obtain ⟨n5, h5, h6, sr5, go5⟩ := p5.draws (c2 := 1)
    refine ⟨_, rfl, a, 9, n5, rfl, sr5, by omega, by decide, by decide, fun H6 jj f6 sr6 jj0 jj1 => ⟨jj, rfl, by omega, by omega, ?_⟩⟩
    have p6 : Pr H1 a u n (1 + i * cMod + 1) H6 := go5 f6 sr6 (by omega) (by omega)
    have hd5 : (upd H4 l (.lst [])) dd = some (.dK kvs) := by rw [upd_ne ld.symm]; exact hd
    have keep6 : Keep (fun x => H1 x = none ∧ x ≠ dd) (fun x => H1 x = none ∧ x ≠ dd ∧ x ≠ l) H4 H6 := fun x kd ys k e => by
      have xl : x ≠ l := fun z => by rw [z, nl] at e; cases e
      refine ⟨⟨k.1, k.2, xl⟩, f6 _ _ ((Pr.start s1 u1).an k.1).1 ?_⟩
      rw [upd_ne xl]; exact e
    refine for_it (walk_range (lo := 0) (n := jj.toNat)) (fun i2 σ H' => ∃ v5, σ = [some (.ref a), some (.ref dd), some (.ref u), some (.int (0 + i)), some (.ref l), v5] ∧ Pr H1 a u n (1 + i * cMod + 1 + i2 * cRow 3) H' ∧
        H' dd = some (.dK kvs) ∧ LibP (fun x => H1 x = none ∧ x ≠ dd ∧ x ≠ l) (fun x => (H1 x = none ∧ x ≠ dd ∧ x ≠ l) ∧ noTop kvs x) H' kvs lib ∧
        ∃ xs rs, H' l = some (.lst xs) ∧ Paired (RowAt (fun x => (H1 x = none ∧ x ≠ dd ∧ x ≠ l) ∧ noTop kvs x) lawK H' 3) xs rs ∧ rs.length ≤ i2 ∧ ∀ r ∈ rs, RowO8 3 false r)
      ⟨_, rfl, p6.le (by omega), f6 _ _ ad hd5, hlib.to keep6 keep6.and, [], [], f6 _ _ lan.1 upd_same, .nil, by simp, by simp⟩ (fun _ _ _ _ _ => trivial) ?_ ?_
    · rintro i2 x σ H7 H8 hi2 ⟨v5', rfl, p8, hd8, hlib8, xs, rs, hl8, hrs, hlen8, hok8⟩ ⟨rfl, rfl⟩
      obtain ⟨n8, c0, c1, g1, g2, s8, u8, go8⟩ := p8.goes (c2 := cRow 3)
      have i27 : (i2 : Int) ≤ 7 := by omega
      have ib2 : (i2 : Int) * cRow 3 ≤ 7 * cRow 3 := Int.mul_le_mul_of_nonneg_right i27 (by decide)
      have ei2 : (((i2 + 1 : Nat) : Int)) * cRow 3 = i2 * cRow 3 + cRow 3 := by
        rw [show (((i2 + 1 : Nat) : Int)) = (i2 : Int) + 1 by omega, Int.add_mul, Int.one_mul]
      refine ⟨_, rfl, u, _, 0, _, rfl, rfl, SqL.of u8, rfl, c0, 0, rfl, rfl, _, rfl, ite2 (fun c => ?_) (fun c => ?_)⟩
      · refine ⟨_, rfl, .inl ⟨rfl, _, SqL.of hl8⟩, _, rfl, _, rfl, a, u, false, n8, c0, c1, rfl, s8, u8, by omega, fun H9 v r p9 hv hrok => ?_⟩
        have hl9 : H9 l = some (.lst xs) := p9.fr _ _ lan hl8
        have l2 : xs.length ≤ i2 := by rw [paired_len hrs]; exact hlen8
        have keep1 : Keep (fun x => H1 x = none ∧ x ≠ dd ∧ x ≠ l) (fun x => H1 x = none ∧ x ≠ dd ∧ x ≠ l) H8 (upd H9 l (.lst (xs ++ [v]))) := fun x kd ys k e => by
          refine ⟨k, ?_⟩
          rw [upd_ne k.2.2]
          exact p9.fr _ _ ((Pr.start s1 u1).an k.1) e
        have keep2 : Keep (fun x => H8 x = none) (fun x => (H1 x = none ∧ x ≠ dd ∧ x ≠ l) ∧ noTop kvs x) H9 (upd H9 l (.lst (xs ++ [v]))) := fun x kd ys k e => by
          have xl : x ≠ l := fun z => by rw [z, hl8] at k; cases k
          have xd : x ≠ dd := fun z => by rw [z, hd8] at k; cases k
          exact ⟨⟨⟨p8.free k, xd, xl⟩, fun hm => by obtain ⟨_, ys2, e2⟩ := libP_top hlib8 hm; rw [k] at e2; cases e2⟩, by rw [upd_ne xl]; exact e⟩
        refine ⟨l, xs, _, rfl, rfl, hl9, small (by omega), _, rfl, ?_, ?_, hlib8.to keep1 keep1.and, xs ++ [v], rs ++ [r], upd_same, ?_, by simp; omega, ?_⟩
        · rw [ei2]
          exact (go8 p9).le (by omega) |>.upN nlH lan.1 lan.2
        · rw [upd_ne ld.symm]
          exact p9.fr _ _ dan hd8
        · exact paired_app (hv.to keep2) (paired_imp hrs fun v r q => q.to keep1.and)
        · intro r' h'
          rcases List.mem_append.mp h' with h | h
          · exact hok8 r' h
          · rw [List.mem_singleton.mp h]; exact hrok
      · exact ⟨_, rfl, by rw [ei2]; exact p8.le (by omega), hd8, hlib8, xs, rs, hl8, hrs, by omega, hok8⟩
    · rintro σ H7 ⟨v5', rfl, p7, hd7, hlib7, xs, rs, hl7, hrs, hlen7, hok7⟩
      have jb2 : ((jj.toNat : Nat) : Int) ≤ 8 := by omega
      have ib2 : ((jj.toNat : Nat) : Int) * cRow 3 ≤ 8 * cRow 3 := Int.mul_le_mul_of_nonneg_right jb2 (by decide)
      obtain ⟨n7, h7, h8, sr7, go7⟩ := p7.draws (c2 := 1)
      refine ⟨_, rfl, _, rfl, _, rfl, a, n7, rfl, sr7, by omega, fun H8 z f8 sr8 hz => ?_⟩
      have p8 : Pr H1 a u n (1 + i * cMod + 1 + ((jj.toNat : Nat) : Int) * cRow 3 + 1) H8 := go7 f8 sr8 (by omega) (by omega)
      have hd8 : H8 dd = some (.dK kvs) := f8 _ _ ad hd7
      have lk : kvs.length ≤ 3 := by rw [paired_len hlib7]; omega
      refine ⟨dd, _, rfl, DPut.k (k := Sum.inr z) hd8 (small (by omega)), ?_⟩
      have keep8 : Keep (fun x => H1 x = none ∧ x ≠ dd ∧ x ≠ l) (fun x => H1 x = none ∧ x ≠ dd) H7 (upd H8 dd (.dK (putK kvs (Sum.inr z) (.ref l)))) := fun x kd ys k e => by
        refine ⟨⟨k.1, k.2.1⟩, ?_⟩
        rw [upd_ne k.2.1]
        exact f8 _ _ ((Pr.start s1 u1).an k.1).1 e
      have keepR : Keep (fun x => (H1 x = none ∧ x ≠ dd ∧ x ≠ l) ∧ noTop kvs x) (fun x => (H1 x = none ∧ x ≠ dd) ∧ noTop (putK kvs (Sum.inr z) (.ref l)) x) H7 (upd H8 dd (.dK (putK kvs (Sum.inr z) (.ref l)))) := fun x kd ys k e => by
        obtain ⟨k1, e1⟩ := keep8 x kd ys k.1 e
        refine ⟨⟨k1, fun hm => ?_⟩, e1⟩
        rcases put_vals hm with e2 | hm
        · exact k.1.2.2 (V.ref.inj e2)
        · exact k.2 hm
      have hput : LibP (fun x => H1 x = none ∧ x ≠ dd) (fun x => (H1 x = none ∧ x ≠ dd) ∧ noTop (putK kvs (Sum.inr z) (.ref l)) x) (upd H8 dd (.dK (putK kvs (Sum.inr z) (.ref l)))) (putK kvs (Sum.inr z) (.ref l)) (putL lib z rs) := paired_put (β := List Row) (fun _ _ r => r.1) (hlib7.to keep8 keepR) ⟨rfl, l, xs, rfl, ⟨nlH, ld⟩, by rw [upd_ne ld]; exact f8 _ _ lan.1 hl7, paired_imp hrs fun v r q => q.to keepR⟩
      have hln : V.ref l ∉ kvs.map (·.2) := fun hm => (libP_top hlib7 hm).1.2.2 rfl
      have hkn : (kvs.map (·.1)).Nodup := by
        rw [libAt_keys (hlib7.at fun _ k => k.1)]
        exact List.Pairwise.map _ (fun _ _ h e => h (Sum.inr.inj e)) hnd
      have pl := putL_len lib z rs
      refine ⟨_, _, _, rfl, ?_, _, putL lib z rs, upd_same, hput, put_nd hkn hvn hln, by omega, fun _ => pl.2.2, putL_nd hnd, fun m hm => ?_⟩
      · rw [ei]
        exact (p8.le (by omega)).upN nd1 dan.1 dan.2
      · rcases putL_mem hm with e | hm
        · rw [e]; exact ⟨hz, by show rs.length ≤ 8; omega, hok7⟩
        · exact hall m hm
  · rintro σ H3 ⟨v3, v4, v5, rfl, p3, kvs, lib, hd, hlib, hvn, hlen, hpos, hnd, hall⟩
    have jb : (((1 + j).toNat : Nat) : Int) ≤ 4 := by omega
    have ib : (((1 + j).toNat : Nat) : Int) * cMod ≤ 4 * cMod := Int.mul_le_mul_of_nonneg_right jb (by decide)
    have cm : cMod = 38610 := by decide
    obtain ⟨f3, n3, b0, b1, l1, l2, sr3, u3⟩ := id p3
    refine ⟨_, rfl, q _ dd kvs lib n3 (fun x o kx e => ?_) sr3 l1 (by omega) nd hd (hlib.to (Keep.mono fun x k _ => ⟨nfree k.1, k.2⟩) (Keep.mono fun x k _ => ⟨⟨nfree k.1.1, k.1.2⟩, k.2⟩)) hvn (hpos (by omega)) ⟨by omega, hnd, fun m hm => (hall m hm).1, fun m hm => Nat.le_trans (hall m hm).2.1 (by decide), fun m hm => (hall m hm).2.2, rows_tot (by omega) fun m hm => (hall m hm).2.1⟩⟩
    exact f3 _ _ ⟨kx, ne_of_none e nuH⟩ (fr0 _ _ trivial e)
end
end Ft
set_option Elab.async false
set_option linter.all false
set_option maxRecDepth 100000
set_option maxHeartbeats 1000000
namespace Ft
open PySem PySem.Spec PyProof.Rows L2
/-- alike: one flat thing, one place, or tuples of such, nested below n -/
def EqW (K : PySem.W.Frag) (H : Hp) : Nat → V → V → Prop
  | 0, x, y => (x = y ∧ flatB x = true) ∨ ∃ a, x = .ref a ∧ y = .ref a
  | n + 1, x, y => ((x = y ∧ flatB x = true) ∨ ∃ a, x = .ref a ∧ y = .ref a) ∨ ∃ a b xs ys, x = .ref a ∧ y = .ref b ∧ SqT K H a xs ∧ SqT K H b ys ∧ Paired (EqW K H n) xs ys
theorem eqW_leaf {x y : V} {v u : Value} {A : Around} {s : Shared} (h : (x = y ∧ flatB x = true) ∨ ∃ a, x = .ref a ∧ y = .ref a) (rx : RelV x v) (ry : RelV y u) : SeqAt.EqAt A s v u true := by
  rcases h with ⟨rfl, f⟩ | ⟨a, rfl, rfl⟩
  · exact eqAt_same rx ry f
  · cases (show v = Value.ref a from rx)
    cases (show u = Value.ref a from ry)
    exact SeqAt.EqAt.same _
theorem itemsW {A : Around} {s : Shared} {F : V → V → Prop} (ih : ∀ x y v u, F x y → RelV x v → RelV y u → SeqAt.EqAt A s v u true) {xs ys : List V} (hp : Paired F xs ys) :
    ∀ {us ws : List Value}, Vals xs us → Vals ys ws → ∀ j (h1 : j < us.length) (h2 : j < ws.length), SeqAt.EqAt A s us[j] ws[j] true := by
  induction hp with
  | nil =>
    intro us ws r1 r2 j h1 h2
    cases r1
    exact absurd h1 (Nat.not_lt_zero j)
  | cons h _ k =>
    intro us ws r1 r2 j h1 h2
    cases r1 with
    | cons a1 b1 =>
      cases r2 with
      | cons a2 b2 =>
        cases j with
        | zero => exact ih _ _ _ _ h a1 a2
        | succ j => exact k b1 b2 j (Nat.lt_of_succ_lt_succ h1) (Nat.lt_of_succ_lt_succ h2)
section
variable {X : Cx} {pins : List (Addr × Obj)} {σ : L2.St} {H : Hp} {s : Shared}
theorem eqW_run (I : Inv X pins σ H s) : ∀ (n : Nat) (A : Around), A.units + n < cLine → ∀ (x y : V) (v u : Value), EqW X.K H n x y → RelV x v → RelV y u → SeqAt.EqAt A s v u true
  | 0, A, _, x, y, v, u, h, rx, ry => eqW_leaf h rx ry
  | n + 1, A, hu, x, y, v, u, h, rx, ry => by
    rcases h with h | ⟨a, b, xs, ys, rfl, rfl, ha, hb, hp⟩
    · exact eqW_leaf h rx ry
    · cases (show v = Value.ref a from rx)
      cases (show u = Value.ref b from ry)
      by_cases e : a = b
      · subst e
        exact SeqAt.EqAt.same _
      · obtain ⟨us, r1, p1, _⟩ := I.tuple ha
        obtain ⟨ws, r2, p2, _⟩ := I.tuple hb
        have hsz : us.length = ws.length := by rw [← r1.length, ← r2.length]; exact Paired.length hp
        have k := SeqAt.RcAt.tuples (A := A) (e := fun _ => true) p1 p2 (by omega) (fun j h1 h2 => by
          have := itemsW (fun x y v u f rx ry => eqW_run I n A.in1 (by show A.units + 1 + n < cLine; omega) x y v u f rx ry) hp r1 r2 j h1 h2
          simpa using this)
        have e2 : ((List.range (min us.toArray.size ws.toArray.size)).all (fun _ => true) && us.toArray.size == ws.toArray.size) = true := by
          rw [List.size_toArray, List.size_toArray, hsz]
          simp
        rw [e2] at k
        exact SeqAt.EqAt.of_refs e k
theorem hitsW {A : Around} {F : V → V → Prop} (ih : ∀ x y v u, F x y → RelV x v → RelV y u → SeqAt.EqAt A s v u true) {ls : List (Key × V)} {vb : List (Key × Value)} (rb : KV ls vb) {ks : List (Key × V)} {va : List (Key × Value)}
    (ra : KV ks va) : (∀ p ∈ ks, ∃ u, valV ls p.1 = some u ∧ F p.2 u) → PySem.W.KeqHits A s vb va true := by
  unfold KV at ra
  induction ra with
  | nil => intro _; exact .nil
  | @cons p q ps qs h t k =>
    intro hp
    obtain ⟨h1, h2⟩ := h
    obtain ⟨u, e, f⟩ := hp p List.mem_cons_self
    have rr : RelO (some u) (valueAt vb p.1) := by rw [← e]; exact rb.val p.1
    obtain ⟨y, hy, ry⟩ := rr.some_of
    obtain ⟨key, v⟩ := q
    have h1' : p.1 = key := h1
    rw [h1'] at hy
    show PySem.W.KeqHits A s vb ((key, v) :: qs) (true && true)
    exact .hit hy (ih _ _ _ _ f h2 ry) (k fun p' hm => hp p' (List.mem_cons_of_mem _ hm))
/-- a != b, two dicts that are alike -/
def rNeDW (K : PySem.W.Frag) : R2 := fun x y H Q => ∃ a b ks ls n, x = .ref a ∧ y = .ref b ∧ n ≤ 60 ∧ H a = some (.dK ks) ∧ H b = some (.dK ls) ∧ ks.length = ls.length ∧ (∀ p ∈ ks, ∃ u, valV ls p.1 = some u ∧ EqW K H n p.2 u) ∧ Q (.bl false) H
theorem op_ne_dictW (hu : X.A.units + 64 < cLine) : OpR X (compareOp .NotEq) (rNeDW X.K) := by
  intro pins s σ H x y v u Q I rx ry h
  obtain ⟨a, b, ks, ls, n, rfl, rfl, hn, ea, eb, hlen, hp, q⟩ := h
  obtain rfl : v = Value.ref a := rx
  obtain rfl : u = Value.ref b := ry
  obtain ⟨_, ya, va, ra, da⟩ := (show ObjOk X.prog X.w H s.heap a (.dK ks) from I.hok a _ ea)
  obtain ⟨_, yb, vb, rb, db⟩ := (show ObjOk X.prog X.w H s.heap b (.dK ls) from I.hok b _ eb)
  have hl : va.length = vb.length := by rw [← ra.length, ← rb.length]; exact hlen
  exact PySem.W.keq_ne (knd := mixKind X.prog X.w) (r := true) ya yb da db (by omega) (fun _ => hitsW (fun x y v u f rx ry => eqW_run I n X.A.in1 (by show X.A.units + 1 + n < cLine; omega) x y v u f rx ry) rb ra hp) (fin_bl I q (by simp [hl]))
end
end Ft
set_option Elab.async false
set_option linter.all false
set_option maxRecDepth 100000
set_option maxHeartbeats 1000000
set_option pp.maxSteps 3000
set_option pp.deepTerms.threshold 8
namespace Ft
open PySem L2
def LeafR (ok : Addr → Prop) (H : Hp) (v v' : V) : Prop := v' = v ∧ (flatB v = true ∨ ∃ a kvs, v = .ref a ∧ ok a ∧ H a = some (.dK kvs))
def TupR (ok : Addr → Prop) (H : Hp) : Nat → V → V → Prop
  | 0, v, v' => LeafR ok H v v'
  | m + 1, v, v' => LeafR ok H v v' ∨ ∃ a kd xs b ys, v = .ref a ∧ ok a ∧ H a = some (mkO kd xs) ∧ v' = .ref b ∧ ok b ∧ H b = some (.tup ys) ∧ Paired (TupR ok H m) xs ys
theorem LeafR.to {ok ok' : Addr → Prop} {H H' : Hp} (t : KeepT ok ok' H H') {v v' : V} (h : LeafR ok H v v') : LeafR ok' H' v v' := by
  obtain ⟨e, h | ⟨a, kvs, e2, k, ha⟩⟩ := h
  · exact ⟨e, .inl h⟩
  · obtain ⟨k', ha'⟩ := t a (.dK kvs) k (fun _ z => nomatch z) ha
    exact ⟨e, .inr ⟨a, kvs, e2, k', ha'⟩⟩
theorem TupR.to {ok ok' : Addr → Prop} {H H' : Hp} (t : KeepT ok ok' H H') : ∀ {m : Nat} {v v' : V}, TupR ok H m v v' → TupR ok' H' m v v' := by
  intro m
  induction m with
  | zero => exact fun h => LeafR.to t h
  | succ m ih =>
    intro v v' h
    rcases h with h | ⟨a, kd, xs, b, ys, e1, k1, h1, e2, k2, h2, p⟩
    · exact .inl (h.to t)
    · obtain ⟨k1', h1'⟩ := t a _ k1 mkO_nt h1
      obtain ⟨k2', h2'⟩ := t b (.tup ys) k2 (fun _ z => nomatch z) h2
      exact .inr ⟨a, kd, xs, b, ys, e1, k1', h1', e2, k2', h2', paired_imp p fun _ _ q => ih q⟩
theorem leaf_eqW {K : PySem.W.Frag} {ok ok2 : Addr → Prop} {H : Hp} {v v1 v2 : V} (h1 : LeafR ok H v v1) (h2 : LeafR ok2 H v v2) : (v1 = v2 ∧ flatB v1 = true) ∨ ∃ a, v1 = .ref a ∧ v2 = .ref a := by
  obtain ⟨rfl, h⟩ := h1
  obtain ⟨rfl, _⟩ := h2
  rcases h with h | ⟨a, kvs, rfl, _⟩
  · exact .inl ⟨rfl, h⟩
  · exact .inr ⟨a, rfl, rfl⟩
theorem leaf_seq {ok : Addr → Prop} {H : Hp} {a : Addr} {kd : Bool} {xs : List V} {v : V} (h : LeafR ok H (.ref a) v) (ha : H a = some (mkO kd xs)) : False := by
  obtain ⟨_, h | ⟨b, kvs, e, _, hb⟩⟩ := h
  · cases h
  · injection e with e
    rw [← e, ha] at hb
    cases kd <;> cases hb
theorem paired_join {α β γ : Type} {R : α → β → Prop} {S : α → γ → Prop} {T : β → γ → Prop} (f : ∀ x y z, R x y → S x z → T y z) : ∀ {xs : List α} {ys : List β} {zs : List γ}, Paired R xs ys → Paired S xs zs → Paired T ys zs
  | _, _, _, .nil, .nil => .nil
  | _, _, _, .cons r t, .cons s u => .cons (f _ _ _ r s) (paired_join f t u)
theorem tupR_eqW {K : PySem.W.Frag} {ok ok2 : Addr → Prop} {H : Hp} : ∀ {m : Nat} {v v1 v2 : V}, TupR ok H m v v1 → TupR ok2 H m v v2 → EqW K H m v1 v2 := by
  intro m
  induction m with
  | zero => exact fun h1 h2 => leaf_eqW (K := K) h1 h2
  | succ m ih =>
    intro v v1 v2 h1 h2
    rcases h1 with h1 | ⟨a, kd, xs, b, ys, e1, k1, g1, e2, k2, g2, p⟩
    · rcases h2 with h2 | ⟨a, kd, xs, b, ys, e1, k1, g1, e2, k2, g2, p⟩
      · exact .inl (leaf_eqW (K := K) h1 h2)
      · subst e1; exact (leaf_seq h1 g1).elim
    · subst e1 e2
      rcases h2 with h2 | ⟨a2, kd2, xs2, b2, ys2, e1, k3, g3, e2, k4, g4, p2⟩
      · exact (leaf_seq h2 g1).elim
      · injection e1 with e1
        subst e1 e2
        rw [g1] at g3
        have e3 := Option.some.inj g3
        obtain rfl : xs = xs2 := by cases kd <;> cases kd2 <;> injection e3
        exact .inr ⟨b, b2, ys, ys2, rfl, rfl, SqT.of g2, SqT.of g4, paired_join (R := TupR ok H m) (S := TupR ok2 H m) (T := EqW K H m) (fun x y z r s => ih (v := x) r s) p p2⟩
section
variable {P : Program} {w : World} {K : PySem.W.Frag} {mg : Str → Option Value} {base : Heap}
def spLTupledR (m : Nat) : Sp := fun vs H Q _ => ∃ (v : V) (t : Th) (ok : Addr → Prop), vs = [v] ∧ ThAt ok H m v t ∧
  ∀ H' v', Same H H' → TupR (fun x => H x = none ∨ ok x) H' m v v' → Q v' H'
theorem ok_LTupledR {f : Addr} {fd : FuncData} {k m : Nat} {spG : Sp} (F : Fun K "_law_tupled" "_law_tupled" sLTupled f fd) (B : Bl mg)
    (gLTupled : Own P w K mg base k "_law_tupled" ["_law_thing"] spG) (hG : ∀ e, m = e + 1 → spG = spLTupledR e) : FnOk P w K mg base CX0 (k + 1) f fd ["_law_thing"] (spLTupledR m) := by
  refine F.ok scLTupled (fun vs H Q E h => ?_) (fun cdv A outer s H vs Q E hr h => ?_)
  · obtain ⟨v, e, ok, rfl, _⟩ := h
    rfl
  obtain ⟨v, t, ok, rfl, hv, q⟩ := h
  refine ⟨_, (pss_one (ps_ret (pe_ifExp (pt_val (pe_callB call_isiT (by rfl) B.isinstance (by decide +kernel) (pa_cons (pv 0) (pa_cons (pe_tup (pa_cons (pe_bltn (v := .ty "list") (by rfl) B.list (by decide +kernel) rfl) (pa_cons (pe_bltn (v := .ty "tuple") (by rfl) B.tuple (by decide +kernel) rfl) pa_nil))) pa_nil)))) (pe_callTy call_tuple_of (by rfl) B.tuple (by decide +kernel) (pa_cons (pe_lc (own := [("_law_part", 1)]) (g := (gName 1)) (tt := tYes) (by rfl) scLTupled.nd (pi_seq (pv 0)) (blkOk_by (own := [("_law_part", 1)]) (N := ["_law_thing", "_law_part"]) (sc := defScope sLTupled) (by decide +kernel)) (fun _ _ _ _ _ => (pg_name (i := 1) scLTupled.nd rfl (by first | exact Or.inl rfl | exact Or.inr rfl))) (fun _ _ _ _ _ => pts_nil) (fun _ _ _ _ _ => (pe_own gLTupled (hr.mono (by omega)) (by rfl) (pa_cons (pv 1) pa_nil)))) pa_nil)) (pv 0)))), ?_⟩
  refine ⟨_, rfl, (by show 2 ≤ sizeLine; decide), fun t0 nt => ?_⟩
  have s0 : Same H (upd H t0 (.tup [.ty "list", .ty "tuple"])) := Same.new nt
  obtain ⟨T0, g1, g2⟩ := th_lt (K := K) hv
  have lf : ∀ {H' : Hp} {v' : V}, LeafR (fun x => H x = none ∨ ok x) H' v v' → TupR (fun x => H x = none ∨ ok x) H' m v v' := fun h => by
    cases m with
    | zero => exact h
    | succ m => exact .inl h
  cases t with
  | «at» x =>
    obtain ⟨rfl, hx⟩ := thAt_at hv
    have hx2 := (smallT_inv hx).1
    refine ⟨_, t0, _, _, _, _, rfl, upd_same, clsV_all ["list", "tuple"], TyX.same g1 s0, kitAny_of g2, false, rfl, iteF ⟨_, rfl, ?_⟩⟩
    exact q _ _ s0 (lf ⟨rfl, .inl (by cases v <;> first | rfl | cases hx2)⟩)
  | dc =>
    obtain ⟨a, kvs, rfl, oka, ha⟩ := thAt_dc hv
    refine ⟨_, t0, _, _, _, _, rfl, upd_same, clsV_all ["list", "tuple"], TyX.same g1 s0, kitAny_of g2, false, rfl, iteF ⟨_, rfl, ?_⟩⟩
    exact q _ _ s0 (lf ⟨rfl, .inr ⟨a, kvs, rfl, .inr oka, s0 _ _ ha⟩⟩)
  | sq es =>
    obtain ⟨m', b, kd, xs, rfl, rfl, okb, hb, hl8, hall⟩ := thAt_sq hv
    have eG := hG m' rfl
    subst eG
    have hb0 := s0 _ _ hb
    refine ⟨_, t0, _, _, _, _, rfl, upd_same, clsV_all ["list", "tuple"], seq_ty hb0, kitAny_of (seq_lt kd), true, rfl, iteT ?_⟩
    generalize upd H t0 _ = H0 at s0 hb0
    have lx : xs.length = es.length := paired_len hall
    refine ⟨_, rfl, b, kd, xs, rfl, sq_of hb0, fun D nD => ?_⟩
    have nDH : H D = none := Same.free s0 nD
    have bD : b ≠ D := ne_of_none hb0 nD
    refine lc_it walk_seq (fun i H' => Same H0 H' ∧ ∃ ys, H' D = some (.lst ys) ∧ Paired (TupR (fun x => (H x = none ∨ ok x) ∧ x ≠ D) H' m') (xs.take i) ys)
      ⟨Same.new nD, [], upd_same, .nil⟩ (fun i H' _ ⟨fr, _⟩ => sq_of (fr _ _ hb0)) ?_ ?_
    · rintro i x H1 H2 hi ⟨s1, ys, hD, hys⟩ ⟨rfl, hx⟩
      obtain ⟨e, he, hxe⟩ := paired_get hall hx
      have s01 : Same H H2 := Same.trans s0 s1
      have hxe' : ThAt (fun x => ok x ∧ x ≠ D) H m' x e := hxe.to (KeepT.mono fun x k e => ⟨k, fun z => e (by rw [z]; exact nDH)⟩)
      refine ⟨rfl, _, rfl, x, e, fun x => ok x ∧ x ≠ D, rfl, hxe'.to (KeepT.same s01), fun H3 v' s3 hv' => ?_⟩
      have ly : ys.length ≤ 100 := by rw [← paired_len hys, List.length_take]; omega
      have et : xs.take (i + 1) = xs.take i ++ [x] := by rw [List.take_add_one, hx]; rfl
      refine ⟨ys, s3 _ _ hD, small (by omega), Same.upN (Same.trans s1 s3) nD, ys ++ [v'], upd_same, ?_⟩
      rw [et]
      have kD : KeepT (fun x => (H x = none ∨ ok x) ∧ x ≠ D) (fun x => (H x = none ∨ ok x) ∧ x ≠ D) H2 (upd H3 D (.lst (ys ++ [v']))) := fun x o k _ e => ⟨k, by rw [upd_ne k.2]; exact s3 _ _ e⟩
      have kN : KeepT (fun x => H2 x = none ∨ (ok x ∧ x ≠ D)) (fun x => (H x = none ∨ ok x) ∧ x ≠ D) H3 (upd H3 D (.lst (ys ++ [v']))) := fun x o k _ e => by
        have xD : x ≠ D := k.elim (fun k z => by rw [z, hD] at k; cases k) fun k => k.2
        exact ⟨⟨k.imp (fun k => Same.free s01 k) fun k => k.1, xD⟩, by rw [upd_ne xD]; exact e⟩
      exact paired_app (hv'.to kN) (paired_imp hys fun _ _ q => q.to kD)
    · rintro H1 ⟨s1, ys, hD, hys⟩
      rw [List.take_length] at hys
      refine ⟨D, ys, rfl, .inl ⟨SqL.of hD, fun t2 nt2 => ?_⟩⟩
      have sT : Same H1 (upd H1 t2 (.tup ys)) := Same.new nt2
      refine q _ _ (Same.trans (Same.trans s0 s1) sT) (.inr ⟨b, kd, xs, t2, ys, rfl, .inr okb, sT _ _ (s1 _ _ hb0), rfl, .inl (Same.free (Same.trans s0 s1) nt2), upd_same, ?_⟩)
      exact paired_imp hys fun _ _ q => q.to fun x o k _ e => ⟨k.1, sT _ _ e⟩
theorem ltupledR_ok {f : Addr} {fd : FuncData} (F : Fun K "_law_tupled" "_law_tupled" sLTupled f fd) (B : Bl mg) (m : mg "_law_tupled" = some (.ref f)) (b : Binds K fd ["_law_thing"] []) : ∀ d : Nat, Own P w K mg base (1 + d) "_law_tupled" ["_law_thing"] (spLTupledR d)
  | 0 => own_mk F m b (ok_LTupledR (k := 0) F B (own_mk F m b fn_false) (fun e h => absurd h (by omega)))
  | d + 1 => own_mk F m b (ok_LTupledR (k := 1 + d) F B (ltupledR_ok F B m b d) (fun e h => by
      have : d = e := by omega
      rw [this]))
end
end Ft
set_option Elab.async false
set_option linter.all false
set_option maxRecDepth 100000
set_option maxHeartbeats 1000000
set_option pp.maxSteps 3000
set_option pp.deepTerms.threshold 8
namespace Ft
open PySem L2
theorem putK_newB {kvs : List (Key × V)} {k : Key} {v : V} (h : k ∉ kvs.map (·.1)) : putK kvs k v = kvs ++ [(k, v)] := by
  unfold putK
  rw [if_neg]
  intro z
  obtain ⟨kv, hkv, e⟩ := List.any_eq_true.mp z
  exact h (List.mem_map.mpr ⟨kv, hkv, of_decide_eq_true e⟩)
theorem mergeK_ndB : ∀ {more acc : List (Key × V)}, ((acc ++ more).map (·.1)).Nodup → mergeK acc more = acc ++ more
  | [], acc, _ => by rw [List.append_nil]; rfl
  | kv :: more, acc, h => by
    show mergeK (putK acc kv.1 kv.2) more = _
    have hk : kv.1 ∉ acc.map (·.1) := by
      rw [List.map_append, List.nodup_append] at h
      exact fun z => h.2.2 _ z _ (by simp) rfl
    have h' : (((acc ++ [kv]) ++ more).map (·.1)).Nodup := by rw [List.append_assoc]; exact h
    rw [putK_newB hk]
    show mergeK (acc ++ [kv]) more = _
    rw [mergeK_ndB h', List.append_assoc]
    rfl
theorem keys_of {β : Type} {R : Key × V → Str × β → Prop} (hk : ∀ kv m, R kv m → kv.1 = Sum.inr m.1) {kvs : List (Key × V)} {lib : List (Str × β)} (h : Paired R kvs lib) : kvs.map (·.1) = (lib.map (·.1)).map Sum.inr := by
  induction h with
  | nil => rfl
  | cons r t ih => rw [List.map_cons, List.map_cons, List.map_cons, ih, hk _ _ r]
theorem keys_two {R : Key × V → Key × V → Prop} (hk : ∀ a b, R a b → a.1 = b.1) {kvs kvs2 : List (Key × V)} (h : Paired R kvs kvs2) : kvs2.map (·.1) = kvs.map (·.1) := by
  induction h with
  | nil => rfl
  | cons r t ih => rw [List.map_cons, List.map_cons, ih, hk _ _ r]
def rDictB (K : PySem.W.Frag) : List V → Hp → VK → Prop := fun xs H Q => ∃ (a : Addr) (ps : List Addr) (kvs : List (Key × V)), xs = [.ref a] ∧ SqL K H a (ps.map V.ref) ∧ Paired (fun p kv => SqT K H p [kV kv.1, kv.2]) ps kvs ∧
    ∀ p, H p = none → Q (.ref p) (upd H p (.dK (mergeK [] kvs)))
end Ft
set_option Elab.async false
set_option linter.all false
set_option maxRecDepth 100000
set_option maxHeartbeats 1000000
set_option pp.maxSteps 3000
set_option pp.deepTerms.threshold 8
namespace Ft
open PySem L2
def keyW : Key → Bool
  | .inl _ => false
  | .inr z => isW z
def keyS : Key → Bool
  | .inl _ => true
  | .inr z => decide (z.length ≤ 1000)
/-- no dict, an empty one, or one with a key that is no word -/
def NoLib (H : Hp) (v : V) : Prop := isAtom v = true ∨ (∃ a kd xs, v = .ref a ∧ H a = some (mkO kd xs)) ∨ ∃ a kvs, v = .ref a ∧ H a = some (.dK kvs) ∧ kvs.length ≤ 100 ∧ (∀ kv ∈ kvs, keyS kv.1 = true) ∧ (kvs = [] ∨ (kvs.all fun kv => keyW kv.1) = false)
theorem NoLib.to {H H' : Hp} {v : V} (h : NoLib H v) (e : ∀ a o, (∀ ps, o ≠ .tbl ps) → H a = some o → H' a = some o) : NoLib H' v := by
  rcases h with h | ⟨a, kd, xs, e1, h⟩ | ⟨a, kvs, e1, h, r⟩
  · exact .inl h
  · exact .inr (.inl ⟨a, kd, xs, e1, e _ _ mkO_nt h⟩)
  · exact .inr (.inr ⟨a, kvs, e1, e _ _ (fun _ z => nomatch z) h, r⟩)
section
variable {P : PySem.Program} {w : World} {K : PySem.W.Frag} {mg : Str → Option Value} {base : Heap}
def spCheckModulesN (CP : Addr) : Sp := fun vs H _ E => ∃ v, vs = [v] ∧ NoLib H v ∧ XBadV CP .non [] H E
theorem ok_CheckModulesN {f CP : Addr} {fd : FuncData} {k : Nat} (F : Fun K "check_modules" "check_modules" sCheckModules f fd) (B : Bl mg) (hk : 9 ≤ k) (gIsWord : Own P w K mg base 1 "is_word" ["thing"] (spIsWord K)) (gFirstWrong : Own P w K mg base 9 "first_wrong" ["rows", "path", "is_within"] (spFirstWrongT 4)) (eP : ErrP P w K mg base CP) : FnOk P w K mg base (L2N.CX P w) (k + 1) f fd ["modules"] (spCheckModulesN CP) := by
  refine okN F scCheckModules (fun vs H Q E h => ?_) (fun cdv A outer s H vs Q E hr h => ?_)
  · obtain ⟨v, rfl, _⟩ := h
    rfl
  obtain ⟨v, rfl, hno, q⟩ := h
  refine ⟨_, (pss_cons (ps_if (PW.pt (pw_or (pt_not (pt_val (pe_callB call_isi (by rfl) B.isinstance (by decide +kernel) (pa_cons (pv 0) (pa_cons (pe_bltn (v := .ty "dict") (by rfl) B.dict (by decide +kernel) rfl) pa_nil))))) (pw_or (pt_cmpR op_eq (pe_callB call_lenD (by rfl) B.len (by decide +kernel) (pa_cons (pv 0) pa_nil)) pe_int (nomark _)) (pw_or1 (pt_not (pt_val (pe_callB (cr_all rfl) (by rfl) B.all (by decide +kernel) (pa_cons (pe_lock (pe_lc (own := [("word", 1)]) (g := (gName 1)) (tt := tYes) (by rfl) scCheckModules.nd (pi_keys (pv 0)) (blkOk_by (own := [("word", 1)]) (N := ["modules", "word", "path"]) (sc := defScope sCheckModules) (by decide +kernel)) (fun _ _ _ _ _ => (pg_name (i := 1) scCheckModules.nd rfl (by first | exact Or.inl rfl | exact Or.inr rfl))) (fun _ _ _ _ _ => pts_nil) (fun _ _ _ _ _ => (pe_own gIsWord (hr.mono (by omega)) (by rfl) (pa_cons (pv 1) pa_nil))))) pa_nil)))))))) (pss_one (ps_raiseP rfl eP (hr.mono (by omega)) (L2N.takes_of rfl rfl rfl rfl) (pa_cons pe_non (pa_cons (pe_tup pa_nil) pa_nil)))) pss_nil)
      (pss_one (ps_for (L2.passes_of rfl) rfl (pi_list (pe_callB (call_sortedDL rfl hr.units) (by rfl) B.sorted (by decide +kernel) (pa_cons (pv 0) pa_nil))) (pg_name (i := 1) scCheckModules.nd rfl (by first | exact Or.inl rfl | exact Or.inr rfl)) (pss_cons (ps_if (pt_not (pt_val (pe_callB call_isiT (by rfl) B.isinstance (by decide +kernel) (pa_cons (pe_dget (hu_of hr) (pv 0) (pv 1) (fun _ _ => rfl)) (pa_cons (pe_tup (pa_cons (pe_bltn (v := .ty "list") (by rfl) B.list (by decide +kernel) rfl) (pa_cons (pe_bltn (v := .ty "tuple") (by rfl) B.tuple (by decide +kernel) rfl) pa_nil))) pa_nil))))) (pss_one (ps_raiseP rfl eP (hr.mono (by omega)) (L2N.takes_of rfl rfl rfl rfl) (pa_cons (pv 1) (pa_cons (pe_tup pa_nil) pa_nil)))) pss_nil)
      (pss_cons (ps_set (i := 2) scCheckModules.nd rfl (by first | exact Or.inl rfl | exact Or.inr rfl) (pe_own gFirstWrong (hr.mono (by omega)) (by rfl) (pa_cons (pe_dget (hu_of hr) (pv 0) (pv 1) (fun _ _ => rfl)) (pa_cons (pe_tup pa_nil) (pa_cons pe_bl pa_nil)))))
      (pss_one (ps_if (pt_cmpR op_notN (pv 2) pe_non (nomark _)) (pss_one (ps_raiseP rfl eP (hr.mono (by omega)) (L2N.takes_of rfl rfl rfl rfl) (pa_cons (pv 1) (pa_cons (pv 2) pa_nil)))) pss_nil))))))), ?_⟩
  rcases hno with ha | ⟨a, kd, xs, rfl, ha⟩ | ⟨dm, kvs, rfl, hdm, l100, hks, hbad⟩
  · refine ⟨_, rfl, _, _, _, _, _, rfl, .ty _, atom_ty ha, kit_ty (r := false) (by cases v <;> first | exact (show kitB "NoneType" "dict" = some false by decide +kernel) | exact (show kitB "bool" "dict" = some false by decide +kernel) | exact (show kitB "int" "dict" = some false by decide +kernel) | exact (show kitB "str" "dict" = some false by decide +kernel) | cases ha), false, rfl, iteT ?_⟩
    exact ⟨Nat.zero_le _, fun t1 nt1 => mkE2 fun d nd => q _ d _ (Same.new nt1) ⟨t1, rfl, upd_same⟩ nd⟩
  · refine ⟨_, rfl, _, _, _, _, _, rfl, .ty _, seq_ty ha, kit_ty (r := false) (by cases kd <;> decide +kernel), false, rfl, iteT ?_⟩
    exact ⟨Nat.zero_le _, fun t1 nt1 => mkE2 fun d nd => q _ d _ (Same.new nt1) ⟨t1, rfl, upd_same⟩ nd⟩
  refine ⟨_, rfl, _, _, _, _, _, rfl, .ty _, .base (.dK hdm), kit_ty (r := true) (by decide +kernel), true, rfl, iteF ?_⟩
  refine ⟨_, rfl, dm, kvs, rfl, hdm, rfl, _, rfl, ?_⟩
  cases kvs with
  | nil =>
    refine iteT ?_
    exact ⟨Nat.zero_le _, fun t1 nt1 => mkE2 fun d nd => q _ d _ (Same.new nt1) ⟨t1, rfl, upd_same⟩ nd⟩
  | cons kv0 kvr =>
  have e0 : decide (V.int (((kv0 :: kvr).length : Nat) : Int) = V.int 0) = false := decide_eq_false (fun e => by
    have := V.int.inj e
    rw [List.length_cons] at this
    omega)
  rw [e0]
  refine iteF ?_
  replace hbad : ((kv0 :: kvr).all fun kv => keyW kv.1) = false := hbad.resolve_left (fun e => nomatch e)
  generalize kv0 :: kvr = kvs at *
  -- the keys
  refine ⟨dm, .dK kvs, hdm, trivial, fun od => ?_⟩
  refine ⟨_, rfl, dm, od, rfl, .inl ⟨kvs, upd_same, fun L nL => ?_⟩⟩
  have Ld : L ≠ dm := fun e => by rw [e, upd_same] at nL; cases nL
  refine lc_it walk_keys (fun i H' => Same (upd H dm (.frz od (.dK kvs))) H' ∧ H' L = some (.lst (((kvs.take i).map fun m => keyW m.1).map V.bl)))
    ⟨Same.new nL, upd_same⟩ (fun i H' _ ⟨sm, _⟩ => sm _ _ upd_same) ?_ ?_
  · rintro i x H1 H2 hi ⟨sm, hL⟩ ⟨rfl, kk', v', hkv, rfl⟩
    refine ⟨rfl, ?_⟩
    have hs := hks _ (List.mem_of_getElem? hkv)
    have kn : Known K H2 (kV kk') ∧ wordV (kV kk') = keyW kk' := by
      cases kk' with
      | inl j => exact ⟨.inr (.inr (.inr (.inl ⟨j, rfl⟩))), rfl⟩
      | inr z => exact ⟨.inl ⟨z, rfl, smallE (by have := of_decide_eq_true hs; omega)⟩, rfl⟩
    refine ⟨_, rfl, kV kk', rfl, kn.1, fun H3 s3 => ?_⟩
    refine ⟨_, s3 _ _ hL, by rw [List.length_map, List.length_map, List.length_take]; exact small (by omega), Same.upN (Same.trans sm s3) nL, ?_⟩
    rw [upd_same, List.take_add_one, hkv, List.map_append, List.map_append, kn.2]
    rfl
  · rintro H1 ⟨sm, hL⟩
    have hd1 : H1 dm = some (.frz od (.dK kvs)) := sm _ _ upd_same
    have sm1 : Same H (upd H1 dm (.dK kvs)) := fun b o e => by
      by_cases eb : b = dm
      · rw [eb, hdm] at e
        rw [eb, upd_same]; exact e
      · rw [upd_ne eb]
        exact sm _ _ (by rw [upd_ne eb]; exact e)
    rw [List.take_length] at hL
    refine ⟨hd1, L, _, rfl, SqL.of (by rw [upd_ne Ld]; exact hL), ?_⟩
    have ea : ((kvs.map fun m => keyW m.1).all id) = kvs.all fun m => keyW m.1 := by rw [List.all_map]; rfl
    rw [ea, hbad]
    refine ⟨_, rfl, ?_⟩
    generalize upd H1 dm _ = G at *
    exact iteT ⟨Nat.zero_le _, fun t1 nt1 => mkE2 fun d nd => q _ d _ (Same.trans sm1 (Same.new nt1)) ⟨t1, rfl, upd_same⟩ nd⟩
end
end Ft
set_option Elab.async false
set_option linter.all false
set_option maxRecDepth 100000
set_option maxHeartbeats 1000000
set_option pp.maxSteps 3000
set_option pp.deepTerms.threshold 8
namespace Ft
open PySem L2
theorem paired_atoms {ok : Addr → Prop} {H : Hp} {m : Nat} : ∀ {xs : List V}, (∀ x ∈ xs, smallT x = true) → Paired (ThAt ok H m) xs (xs.map Th.at)
  | [], _ => .nil
  | x :: xs, h => .cons (thAt_at' (h x (by simp))) (paired_atoms fun y hy => h y (by simp [hy]))
theorem smallA_T {v : V} (h : smallA v) : smallT v = true := by
  unfold smallT
  rw [h.1, Bool.true_and]
  split
  · exact decide_eq_true (h.2 _ rfl)
  · rfl
theorem any_th {ok : Addr → Prop} {H : Hp} {v : V} (h : AnyAt ok H 1 v) : ∃ t, ThAt ok H 1 v t := by
  rcases h with h | ⟨a, kd, xs, e, k, ha, hl, hx⟩ | ⟨a, kvs, e, k, ha, _⟩
  · exact ⟨.at v, thAt_at' (smallA_T h)⟩
  · exact ⟨.sq (xs.map .at), a, kd, xs, e, k, ha, by rw [List.length_map]; omega, paired_atoms fun x m => smallA_T (hx x m)⟩
  · exact ⟨.dc, by rw [e]; exact thAt_dc' k ha⟩
section
variable {ok : Addr → Prop} {Hb : Hp} {m n : Nat} {σ : L2.St}
theorem yt_d1l {z : Str} (hf : ∀ x, Hb x = none → ok x) : YT ok Hb m (tDisp [(tC (.str z), tLst tNil)]) σ .dc := fun H Q s q p np => by
  have s1 : Same H (upd H p (.dK [])) := Same.new np
  have hp : (upd H p (.dK [])) p = some (.dK []) := upd_same
  generalize upd H p _ = G at *
  refine ⟨Nat.zero_le _, fun l nl => ?_⟩
  have s2 : Same G (upd G l (.lst [])) := Same.new nl
  refine ⟨s2 _ _ hp, [(Sum.inr z, .ref l)], rfl, by show 1 ≤ 15; decide, q _ _ (Same.upN (Same.trans s1 s2) np) (thAt_dc' (hf p (Same.free s np)) upd_same)⟩
end
section
variable {P : PySem.Program} {w : World} {K : PySem.W.Frag} {mg : Str → Option Value} {base : Heap}
abbrev sLNoRows : Stmt := topS 46
theorem scLNoRows : FnScope ["_law_source_here", "_law_found", "_law_some"] ["_law_source_here"] (defScope sLNoRows) := ⟨rfl, rfl, rfl, by decide +kernel, rfl, by decide +kernel, by decide +kernel⟩
def spLNoRows : Sp := fun vs H Q _ => ∃ (a : Addr) (n : Int), vs = [.ref a] ∧ Src H a n ∧ n < 2 ^ 30 ∧
  ∀ H' v t n', Fr (· ≠ a) H H' → Src H' a n' → n ≤ n' → n' ≤ n + 100 → ThAt (fun x => H x = none) H' 1 v t → isSq t = false → Q v H'
theorem ok_LNoRows {f : Addr} {fd : FuncData} {k : Nat} (F : Fun K "_law_no_rows" "_law_no_rows" sLNoRows f fd) (B : Bl mg) (hk : 4 ≤ k) (gLAny : Own P w K mg base 4 "_law_any" ["_law_source_here", "_law_deep"] (spLAny 1)) (gLPick : Own P w K mg base 2 "_law_pick" ["_law_source_here", "_law_some"] spLPick) : FnOk P w K mg base CX0 (k + 1) f fd ["_law_source_here"] spLNoRows := by
  refine F.ok scLNoRows (fun vs H Q E h => ?_) (fun cdv A outer s H vs Q E hr h => ?_)
  · obtain ⟨a, n, rfl, _⟩ := h
    rfl
  obtain ⟨a, n, rfl, sr, hn, q⟩ := h
  refine ⟨_, (pss_cons (ps_set (i := 1) scLNoRows.nd rfl (by first | exact Or.inl rfl | exact Or.inr rfl) (pe_own gLAny (hr.mono (by omega)) (by rfl) (pa_cons (pv 0) (pa_cons pe_int pa_nil))))
      (pss_cons (ps_set (i := 2) scLNoRows.nd rfl (by first | exact Or.inl rfl | exact Or.inr rfl) (pe_lst (pa_cons pe_non (pa_cons pe_int (pa_cons pe_bl (pa_cons pe_str (pa_cons pe_str (pa_cons pe_dnewK (pa_cons (pe_disp (pps_cons pe_str (pe_lst pa_nil) pps_nil) (by rfl) (by rfl) (fun z => by cases z) (by decide)) (pa_cons (pe_disp (pps_cons pe_str pe_int pps_nil) (by rfl) (by rfl) (fun z => by cases z) (by decide)) pa_nil))))))))))
      (pss_one (ps_ret (pe_ifExp (pt_val (pe_callB call_isiT (by rfl) B.isinstance (by decide +kernel) (pa_cons (pv 1) (pa_cons (pe_tup (pa_cons (pe_bltn (v := .ty "list") (by rfl) B.list (by decide +kernel) rfl) (pa_cons (pe_bltn (v := .ty "tuple") (by rfl) B.tuple (by decide +kernel) rfl) pa_nil))) pa_nil)))) (pe_own gLPick (hr.mono (by omega)) (by rfl) (pa_cons (pv 0) (pa_cons (pv 2) pa_nil))) (pv 1)))))), ?_⟩
  have c1 : cAny 1 = 12 := rfl
  refine ⟨_, rfl, a, n, rfl, sr, by omega, fun H1 v n1 f1 sr1 n10 n11 hv => ?_⟩
  obtain ⟨t, ht⟩ := any_th hv
  have hf : ∀ x, H1 x = none → H x = none := fun x h => by
    obtain ⟨o, eo⟩ := sr1.is
    exact f1.freeD eo h
  dsimp only [gName]
  apply set_th (m := 1) (ok := fun x => H x = none) hf
  · repeat (first | exact yts_nil | apply yts_cons | exact yt_c (by decide +kernel) | exact yt_dn hf | exact yt_d1l hf | exact yt_d1 hf)
  intro K0 c0 vs0 z0 k0 hc0 hv0
  have ht0 := ht.to (KeepT.same (ok := fun x => H x = none) z0)
  have srK : Src K0 a n1 := sr1.fr (ok := fun _ => True) (Fr.same z0) trivial
  have okc : c0 ≠ a := sr.nn k0
  refine ⟨_, rfl, (by show 2 ≤ sizeLine; decide), fun t0 nt => ?_⟩
  have s5 : Same K0 (upd K0 t0 (.tup [.ty "list", .ty "tuple"])) := Same.new nt
  obtain ⟨T0, g1, g2⟩ := th_lt (K := K) (ht0.to (KeepT.same s5))
  refine ⟨_, t0, _, _, _, _, rfl, upd_same, clsV_all ["list", "tuple"], g1, kitAny_of g2, isSq t, rfl, ?_⟩
  have hc1 := s5 _ _ hc0
  have hv1 := paired_imp hv0 fun _ _ q => q.to (KeepT.same (ok := fun x => H x = none) s5)
  have ht1 := ht0.to (KeepT.same (ok := fun x => H x = none) s5)
  have sr2 : Src (upd K0 t0 (.tup [.ty "list", .ty "tuple"])) a n1 := srK.fr (ok := fun _ => True) (Fr.same s5) trivial
  have f2 : Fr (· ≠ a) H (upd K0 t0 (.tup [.ty "list", .ty "tuple"])) := f1.trans (Fr.same (Same.trans z0 s5))
  generalize upd K0 t0 _ = K1 at *
  cases hq : isSq t with
  | false => exact iteF ⟨_, rfl, q _ _ _ _ f2 sr2 n10 (by omega) ht1 hq⟩
  | true =>
    refine iteT ⟨_, rfl, _, rfl, ?_⟩
    refine pick_th (E := E0) (ok := fun x => H x = none) sr2 (by omega) f2 (fun x h => sr.nn h) okc hc1 hv1 (by decide) (by simp) fun H3 v3 t3 f3 sr3 hv3 ht3 => ?_
    refine q _ _ _ _ f3 sr3 (by omega) (by omega) hv3 ?_
    simp only [List.mem_cons, List.not_mem_nil, or_false] at ht3
    rcases ht3 with rfl | rfl | rfl | rfl | rfl | rfl | rfl | rfl <;> rfl
end
end Ft
set_option Elab.async false
set_option linter.all false
set_option maxRecDepth 100000
set_option maxHeartbeats 1000000
set_option pp.maxSteps 3000
set_option pp.deepTerms.threshold 8
namespace Ft
open PySem L2
section
variable {prog : Program} {w : World} {A : Around} {E : Value → Shared → Prop} {s : Shared}
/-- neither None nor a bool is found among texts -/
theorem find_odd {d : Addr} {o : Obj} {es : Array DictEntry} {ep : Nat} {v : Value} {h : Int} {Q : Option Nat → Shared → Prop} (ho : s.heap.get? d = some o) (hd : o.data = .dict es ep) (hs : ∀ e ∈ es, ∃ z t, e.key = .str z t) (hk : v = .none ∨ ∃ b, v = .bool b) (q : Q none s) : wpAny (model prog w) A (dictFind d v h) Q E s := by
  have hall : ((v :: (placesWithHash es.size (fun i => es[i]?.map (·.hash)) h).filterMap fun i => es[i]?.map (·.key)).all carriedByValue) = true := by
    rw [List.all_cons, List.all_eq_true.mpr, Bool.and_true]
    · rcases hk with rfl | ⟨b, rfl⟩ <;> rfl
    · intro u hu
      obtain ⟨i, _, hi⟩ := List.mem_filterMap.mp hu
      cases he : es[i]? with
      | none => rw [he] at hi; cases hi
      | some e =>
        rw [he] at hi
        obtain rfl : e.key = u := by simpa using hi
        obtain ⟨z, t, hkey⟩ := hs e (Array.mem_of_getElem? he)
        rw [hkey]; rfl
  have walk : wpAny (model prog w) A (dictWalkPlain d v h es (placesWithHash es.size (fun i => es[i]?.map (·.hash)) h)) Q E s := by
    unfold dictWalkPlain
    refine wpAny_bind ?_
    refine wpAny_forIn_list _ (fun rest b s' => s' = s ∧ b = (none, ())) _ ?_ ?_ _ _ ⟨rfl, rfl⟩
    · rintro x rest b s' ⟨rfl, rfl⟩
      cases he : es[x]? with
      | none => exact wpAny_pure ⟨rfl, rfl⟩
      | some e =>
        obtain ⟨z, t, hkey⟩ := hs e (Array.mem_of_getElem? he)
        dsimp only
        by_cases hh : (e.hash == h) = true
        · rw [if_pos hh, hkey]
          have eq : ∀ {Q' : Bool → Shared → Prop}, Q' false s' → wpAny (model prog w) A (eqBool (.str z t) v) Q' E s' := fun {Q'} q' => by
            rcases hk with rfl | ⟨b, rfl⟩
            · exact SeqAt.EqAt.str_none z t _ _ _ _ q'
            · exact SeqAt.EqAt.str_bool z t b _ _ _ _ q'
          refine wpAny_bind (wpAny_dictEpoch ho hd (wpAny_bind (eq (wpAny_bind (wpAny_dictEpoch ho hd ?_)))))
          show wpAny _ _ (if (ep != ep) = true then _ else _) _ E _
          rw [if_neg (by simp)]
          exact wpAny_bind (wpAny_rule (wpAny_pure ⟨rfl, rfl⟩))
        · rw [if_neg hh]
          exact wpAny_pure ⟨rfl, rfl⟩
    · rintro b s' ⟨rfl, rfl⟩
      exact wpAny_pure q
  unfold dictFind
  refine wpAny_holding ?_
  refine wpAny_bind (wpAny_dictEntries ho hd ?_)
  dsimp only
  rcases hk with rfl | ⟨b, rfl⟩
  · dsimp only
    rw [if_pos hall]
    exact walk
  · dsimp only
    rw [if_pos hall]
    exact walk
/-- .. and so it is stored behind them -/
theorem set_odd {d : Addr} {o : Obj} {es : Array DictEntry} {ep : Nat} {v x : Value} {Q : Unit → Shared → Prop} (hu : A.units < cLine) (ho : s.heap.get? d = some o) (hx : o.ExactDict) (hd : o.data = .dict es ep) (hs : ∀ e ∈ es, ∃ z t, e.key = .str z t) (hz : es.size ≤ sizeLine) (hk : v = .none ∨ ∃ b, v = .bool b)
    (hQ : ∀ h' o' hh, h'.get? d = some o' → o'.ExactDict → o'.data = .dict (es.push ⟨hh, v, x⟩) (ep + 1) → Heap.SameBut d s.heap h' → Q () { s with heap := h', toks := s.toks + 1 }) : wpAny (model prog w) A (dictSet d v x) Q E s := by
  have hash : ∀ {Q' : Int → Shared → Prop}, (∀ hh, Q' hh { s with toks := s.toks + 1 }) → wpAny (model prog w) A (pyHash v) Q' E s := fun {Q'} q' => by
    rcases hk with rfl | ⟨b, rfl⟩
    · exact pyHash_key .none _ A s Q' .none (by show A.units + 0 < cLine; omega) (q' _)
    · exact pyHash_key (.num _) _ A s Q' (.bool rfl) (by show A.units + 0 < cLine; omega) (q' _)
  unfold dictSet
  refine wpAny_holding ?_
  refine wpAny_bind (hash fun hh => ?_)
  unfold dictSetHashed
  refine wpAny_holding ?_
  refine wpAny_bind (find_odd (s := { s with toks := s.toks + 1 }) ho hd hs hk ?_)
  exact wpAny_bind (wpAny_rule (wpAny_updateDictKeys (hz := hz) (s := { s with toks := s.toks + 1 }) ho hd (hQ _ _ hh (Heap.get?_update_self _ ho (Obj.isFreed_of_dict (Obj.data_mapDictKeys hd _))) (hx.mapDictKeys _) (Obj.data_mapDictKeys hd _) (Heap.SameBut.update ..))))
/-- a display of one odd key -/
theorem display_odd {env : Env} {k e : Expr} {pos : Pos} {Q : Value → Shared → Prop} (hu : A.units + 8 < cLine)
    (h : wpAny (model prog w) A (evalPairs (pairTrees [some k] [e] env pos)) (fun vs s₁ => ∃ v x, vs = [(v, x)] ∧ (v = .none ∨ ∃ b, v = .bool b) ∧ s₁.heap.DictOf (mixKind prog w) s.heap.objs.size [] ∧
      ∀ h' o' ep hh, h'.get? s.heap.objs.size = some o' → o'.ExactDict → o'.data = .dict #[⟨hh, v, x⟩] ep → Heap.SameBut s.heap.objs.size s₁.heap h' → Q (.ref s.heap.objs.size) { s₁ with heap := h', toks := s₁.toks + 1 }) E
      { s with heap := s.heap.push { cls := .type "dict", data := .dict #[] } }) :
    wpAny (model prog w) A (eval (.Dict [some k] [e] pos) env) Q E s := by
  rw [arm_eval_Dict, zip_pairTrees [some k] [e] env pos rfl rfl, dictDisplay_pairs _ (by intro z; cases z) (by show 1 < 17; decide)]
  refine wpAny_bind (wpAny_standAt (wpAny_bind ?_))
  unfold subDict
  refine wpAny_bind (wpAny_alloc ?_)
  refine wpAny_bind (wpAny_holding ?_)
  rw [if_pos (by show 1 ≤ 15; decide)]
  refine wpAny_bind (wpAny_mono h (fun vs s₁ h₁ => ?_) fun _ _ e => e)
  obtain ⟨v, x, rfl, hk, hm, hQ⟩ := h₁
  refine wpAny_holding ?_
  rw [List.forIn_cons]
  obtain ⟨o, es, ep, ho, hc, hd, hks, hp, hn⟩ := hm
  have e0 : es = #[] := by
    have e1 := hp.length
    have e2 : es.toList.length = es.size := by simp
    exact Array.eq_empty_of_size_eq_zero (by rw [← e2, e1]; rfl)
  subst e0
  refine wpAny_bind (wpAny_bind (wpAny_bind (set_odd (by omega) ho hc hd (by simp) (by decide) hk fun h' o' hh g1 g2 g3 g4 => wpAny_pure ?_)))
  dsimp only
  rw [List.forIn_nil]
  exact wpAny_pure (wpAny_pure (wpAny_pure (wpAny_pure (hQ h' o' _ hh g1 g2 g3 g4))))
/-- a display of a text and an odd key -/
theorem display_odd2 {env : Env} {k1 e1 k e : Expr} {pos : Pos} {Q : Value → Shared → Prop} (hu : A.units + 8 < cLine)
    (h : wpAny (model prog w) A (evalPairs (pairTrees [some k1, some k] [e1, e] env pos)) (fun vs s₁ => ∃ z t y v x, vs = [(.str z t, y), (v, x)] ∧ (v = .none ∨ ∃ b, v = .bool b) ∧ s₁.heap.DictOf (mixKind prog w) s.heap.objs.size [] ∧
      ∀ h' o' es ep z2 t2, h'.get? s.heap.objs.size = some o' → o'.ExactDict → o'.data = .dict es ep → es.toList.map (·.key) = [.str z2 t2, v] → z2 = z → Heap.SameBut s.heap.objs.size s₁.heap h' → Q (.ref s.heap.objs.size) { s₁ with heap := h', toks := s₁.toks + 1 + 1 }) E
      { s with heap := s.heap.push { cls := .type "dict", data := .dict #[] } }) :
    wpAny (model prog w) A (eval (.Dict [some k1, some k] [e1, e] pos) env) Q E s := by
  rw [arm_eval_Dict, zip_pairTrees [some k1, some k] [e1, e] env pos rfl rfl, dictDisplay_pairs _ (by intro z; cases z) (by show 2 < 17; decide)]
  refine wpAny_bind (wpAny_standAt (wpAny_bind ?_))
  unfold subDict
  refine wpAny_bind (wpAny_alloc ?_)
  refine wpAny_bind (wpAny_holding ?_)
  rw [if_pos (by show 2 ≤ 15; decide)]
  refine wpAny_bind (wpAny_mono h (fun vs s₁ h₁ => ?_) fun _ _ e => e)
  obtain ⟨z, t, y, v, x, rfl, hk, hm, hQ⟩ := h₁
  refine wpAny_holding ?_
  rw [List.forIn_cons]
  refine wpAny_bind (wpAny_bind (wpAny_bind (wpAny_dictSet_pairs (knd := mixKind prog w) (k := .inr z) (by show Value.isStrOf z (.str z t) = true; unfold Value.isStrOf; simp) hm (fun h1 hm1 hs1 => wpAny_pure ?_) (by decide))))
  dsimp only
  rw [List.forIn_cons]
  obtain ⟨o, es, ep, ho, hc, hd, hks, hp, hn⟩ := hm1
  obtain ⟨e0, z2, t2, ek, e00, ez⟩ : ∃ e0 z2 t2, es = #[e0] ∧ e0.key = .str z2 t2 ∧ z2 = z := by
    obtain ⟨l⟩ := es
    have hp' : Pairs (mixKind prog w) l [(.inr z, y)] := hp
    cases hp' with
    | cons g1 g2 g3 =>
      cases g3
      rename_i e0
      have g1' : keyIs (.inr z) e0.key = true := g1
      rcases keyIs_shape g1' with ⟨i, t', e1, _⟩ | ⟨x', t', e1, e2⟩
      · cases e1
      · injection e1 with e1
        exact ⟨e0, x', t', rfl, e2, e1.symm⟩
  subst ek
  refine wpAny_bind (wpAny_bind (set_odd (s := { s₁ with heap := h1, toks := s₁.toks + 1 }) (by omega) ho hc hd (by
    intro e' he'
    have : e' = e0 := by simpa using he'
    rw [this]
    exact ⟨_, _, e00⟩) (by show 1 ≤ sizeLine; decide) hk fun h' o' hh g1 g2 g3 g4 => wpAny_pure ?_))
  dsimp only
  rw [List.forIn_nil]
  exact wpAny_pure (wpAny_pure (wpAny_pure (wpAny_pure (hQ h' o' _ _ z2 t2 g1 g2 g3 (by simp [e00]) ez (hs1.trans g4)))))
end
/-- a dict whose keys are these, in order (its values untold) -/
def OddO (p : Addr) (ks : List V) : HO := .ext fun h => (p == sysModules) = false ∧ ∃ o es ep, h.get? p = some o ∧ o.ExactDict ∧ o.data = .dict es ep ∧ Vals ks (es.toList.map (·.key))
/-- {k: v}, k None or a bool -/
def tDispO (tk tv : TE) : TE := fun σ H Q => ∀ p, H p = none → tk σ (upd H p (.dK [])) fun x H1 => tv σ H1 fun y H2 => H2 p = some (.dK []) ∧ (x = .non ∨ ∃ b, x = .bl b) ∧ Q (.ref p) (upd H2 p (OddO p [x]))
theorem pe_dispO {X : Cx} {pos : Pos} {k e : Expr} {tk tv : TE} (hu : X.A.units + 64 < cLine) (hk : PE X k tk) (hv : PE X e tv) : PE X (.Dict [some k] [e] pos) (tDispO tk tv) := by
  refine ⟨fun pins s σ H Q I q => ?_⟩
  have hn := I.hok.fresh (Nat.le_refl s.heap.objs.size)
  have I1 := I.laid (a := s.heap.objs.size) (o := .dK []) (h' := s.heap.push { cls := .type "dict", data := .dict #[] }) (t' := s.toks) (fun _ _ q => Heap.get?_push_of_some _ q) (Nat.le_refl _) (dk_empty s.heap I.big)
  have q1 : tPairs [(tk, tv)] σ (upd H s.heap.objs.size (.dK [])) (fun ps H2 => match ps with
    | [(x, y)] => H2 s.heap.objs.size = some (.dK []) ∧ (x = .non ∨ ∃ b, x = .bl b) ∧ Q (.ref s.heap.objs.size) (upd H2 s.heap.objs.size (OddO s.heap.objs.size [x]))
    | _ => False) := q _ hn
  refine display_odd (by omega) (thn ((pps_cons hk hv pps_nil).run pins _ σ _ _ I1 q1) fun ws s2 ⟨ps, H2, I2, rel, hq⟩ => ?_)
  cases rel with
  | nil => exact hq.elim
  | @cons a b as bs h t =>
    cases t with
    | cons _ _ => exact hq.elim
    | nil =>
      obtain ⟨x, y⟩ := a
      obtain ⟨v, u⟩ := b
      obtain ⟨e, hx, q2⟩ := hq
      obtain ⟨rx, ry⟩ := h
      obtain ⟨z, hd, vs0, r0, dd⟩ := dk_of I2.hok e
      cases r0
      have hk2 : v = .none ∨ ∃ b, v = .bool b := by
        rcases hx with rfl | ⟨b, rfl⟩
        · exact .inl rx
        · exact .inr ⟨b, rx⟩
      refine ⟨v, u, rfl, hk2, dd, fun h' o' ep hh g1 g2 g3 hs => ⟨.ref s.heap.objs.size, _, ?_, rfl, q2⟩⟩
      refine d_write I2 (by rw [e]; exact True.intro) hs ⟨_, g1⟩ ⟨⟨hd, o', _, ep, g1, g2, g3, .cons rx .nil⟩, ⟨_, g1⟩, fun h1 h2 ⟨k0, o2, es, ep2, k1, k2, k3, k4⟩ hkk => ⟨k0, o2, es, ep2, hkk _ k1, k2, k3, k4⟩⟩
/-- {"a": u, k: v}, k None or a bool -/
def tDispO2 (tk1 tv1 tk tv : TE) : TE := fun σ H Q => ∀ p, H p = none → tk1 σ (upd H p (.dK [])) fun x1 H1 => tv1 σ H1 fun y1 H2 => tk σ H2 fun x H3 => tv σ H3 fun y H4 => H4 p = some (.dK []) ∧ ∃ z, x1 = .str z ∧ (x = .non ∨ ∃ b, x = .bl b) ∧ Q (.ref p) (upd H4 p (OddO p [.str z, x]))
theorem pe_dispO2 {X : Cx} {pos : Pos} {k1 e1 k e : Expr} {tk1 tv1 tk tv : TE} (hu : X.A.units + 64 < cLine) (hk1 : PE X k1 tk1) (hv1 : PE X e1 tv1) (hk : PE X k tk) (hv : PE X e tv) : PE X (.Dict [some k1, some k] [e1, e] pos) (tDispO2 tk1 tv1 tk tv) := by
  refine ⟨fun pins s σ H Q I q => ?_⟩
  have hn := I.hok.fresh (Nat.le_refl s.heap.objs.size)
  have I1 := I.laid (a := s.heap.objs.size) (o := .dK []) (h' := s.heap.push { cls := .type "dict", data := .dict #[] }) (t' := s.toks) (fun _ _ q => Heap.get?_push_of_some _ q) (Nat.le_refl _) (dk_empty s.heap I.big)
  have q1 : tPairs [(tk1, tv1), (tk, tv)] σ (upd H s.heap.objs.size (.dK [])) (fun ps H4 => match ps with
    | [(x1, _), (x, _)] => H4 s.heap.objs.size = some (.dK []) ∧ ∃ z, x1 = .str z ∧ (x = .non ∨ ∃ b, x = .bl b) ∧ Q (.ref s.heap.objs.size) (upd H4 s.heap.objs.size (OddO s.heap.objs.size [.str z, x]))
    | _ => False) := q _ hn
  refine display_odd2 (by omega) (thn ((pps_cons hk1 hv1 (pps_cons hk hv pps_nil)).run pins _ σ _ _ I1 q1) fun ws s2 ⟨ps, H2, I2, rel, hq⟩ => ?_)
  cases rel with
  | nil => exact hq.elim
  | @cons a b as bs h t =>
    cases t with
    | nil => exact hq.elim
    | @cons a2 b2 as2 bs2 h2 t2 =>
      cases t2 with
      | cons _ _ => exact hq.elim
      | nil =>
        obtain ⟨x1, y1⟩ := a
        obtain ⟨v1, u1⟩ := b
        obtain ⟨x, y⟩ := a2
        obtain ⟨v, u⟩ := b2
        obtain ⟨e, zz, rfl, hx, q2⟩ := hq
        obtain ⟨rx1, ry1⟩ := h
        obtain ⟨rx, ry⟩ := h2
        obtain ⟨z, hd, vs0, r0, dd⟩ := dk_of I2.hok e
        cases r0
        obtain ⟨t0, e1⟩ : ∃ t0, v1 = .str zz t0 := rx1
        subst e1
        have hk2 : v = .none ∨ ∃ b, v = .bool b := by
          rcases hx with rfl | ⟨b, rfl⟩
          · exact .inl rx
          · exact .inr ⟨b, rx⟩
        refine ⟨zz, t0, u1, v, u, rfl, hk2, dd, fun h' o' es ep z2 t2 g1 g2 g3 g4 g5 hs => ⟨.ref s.heap.objs.size, _, ?_, rfl, q2⟩⟩
        subst g5
        have rl : Vals [.str z2, x] (es.toList.map (·.key)) := by rw [g4]; exact .cons ⟨t2, rfl⟩ (.cons rx .nil)
        refine d_write I2 (by rw [e]; exact True.intro) hs ⟨_, g1⟩ ⟨⟨hd, o', es, ep, g1, g2, g3, rl⟩, ⟨_, g1⟩, fun h1 h2 ⟨k0, o2, es, ep2, k1, k2, k3, k4⟩ hkk => ⟨k0, o2, es, ep2, hkk _ k1, k2, k3, k4⟩⟩
end Ft
set_option Elab.async false
set_option linter.all false
set_option maxRecDepth 100000
set_option maxHeartbeats 1000000
set_option pp.maxSteps 3000
set_option pp.deepTerms.threshold 8
namespace Ft
open PySem L2
def rIsiO (K : PySem.W.Frag) : List V → Hp → VK → Prop := fun xs H Q => ∃ (p : Addr) (ks : List V), xs = [.ref p, .ty "dict"] ∧ H p = some (OddO p ks) ∧ Q (.bl true) H
theorem call_isiO {X : Cx} : CallR X (.builtin "isinstance") (rIsiO X.K) := by
  intro pins s σ H xs us Q I r h
  obtain ⟨p, ks, rfl, hp, q⟩ := h
  obtain ⟨u1, u2, rfl, r1, r2⟩ := vals2 r
  cases (show u1 = Value.ref p from r1)
  cases (show u2 = Value.type "dict" from r2)
  obtain ⟨⟨_, o, es, ep, h1, h2, _, _⟩, _, _⟩ := (show ObjOk X.prog X.w H s.heap p (OddO p ks) from I.hok p _ hp)
  exact PySem.W.kia_one PySem.W.kitx_dict I.kIn ⟨o, h1, h2.1⟩ (kit_ty (r := true) (by decide +kernel)) (fun z => nomatch z) fun tk => ⟨.bl true, H, I.tok tk, rfl, q⟩
def rLenO : List V → Hp → VK → Prop := fun xs H Q => ∃ (p : Addr) (ks : List V), xs = [.ref p] ∧ H p = some (OddO p ks) ∧ ks.length ≤ 100 ∧ Q (.int (ks.length : Nat)) H
section
variable {prog : Program} {w : World} {A : Around} {E : Value → Shared → Prop} {s : Shared}
/-- at d stands a dict of n entries -/
def DictN (h : Heap) (d : Addr) (n : Nat) : Prop := ∃ o es ep, h.get? d = some o ∧ o.ExactDict ∧ o.data = .dict es ep ∧ es.size = n
theorem dictN_ty {d : Addr} {n : Nat} (h : DictN s.heap d n) : s.TypeIs (.ref d) "dict" := by
  obtain ⟨o, es, ep, h1, h2, _, _⟩ := h
  exact ⟨o, h1, h2.1⟩
theorem size_dictN {d : Addr} (hd : (d == sysModules) = false) : MeetsIn prog w (Builtin.«dict.__len__» ⟨[.ref d], []⟩) (fun _ R s => ∃ n, DictN s.heap d n ∧ R (.ok (.ret (.int n s.toks))) { s with toks := s.toks + 1 }) :=
  .of_wp fun A R s ⟨n, ⟨o, es, ep, h1, _, h3, h4⟩, h⟩ => by
    show wpAny _ _ (dictSize d >>= _) _ _ s
    unfold dictSize
    refine wpAny_bind (wpAny_bind (wpAny_dictEntries h1 h3 (wpAny_pure ?_)))
    show wpAny _ _ (Builtin.Dict.pendingCount d >>= _) _ _ s
    refine wpAny_bind (wpAny_pendingCount_other hd (wpAny_ret_mkInt ?_))
    rw [Nat.add_zero, h4]
    exact h
theorem len_dictN {d : Addr} {n : Nat} {Q : Value → Shared → Prop} (hd : (d == sysModules) = false) (hm : DictN s.heap d n) (hn : n ≤ 100) (h : Q (.int n (s.toks + 1)) { s with toks := s.toks + 1 + 1 }) : wpAny (model prog w) A (call (.builtin "len") [.ref d]) Q E s := by
  refine Calls.call_function_entry kind_len PySem.plain_len entry_len (args_len1 _) ?_
  unfold Builtin.«len»
  refine wpAny_bind (m := oneArg "len" _) (wpAny_pure ?_)
  refine wpAny_bind (m := callSpecial? (.ref d) (Str.ofString "__len__")) (wpAny_callSpecial?_slot (name := Str.ofString "__len__") (dictN_ty hm) F.slot_dict_len
    (call_meetsIn F.slot_dict_len (dictN_ty hm) F.entry_dict_len (F.args_dict_len_1 _) (size_dictN hd) ⟨n, hm, ?_⟩))
  show wpAny _ _ _ _ _ { s with toks := s.toks + 1 }
  refine wpAny_bind (wpAny_holding (wpAny_pure ?_))
  refine wpAny_bind (wpAny_letGo ?_)
  have low : (n : Int) < 2 ^ 63 := by omega
  show wpAny _ _ (if (n : Int) < 0 then _ else _) _ _ _
  rw [if_neg (by omega)]
  show wpAny _ _ (if (n : Int) ≥ 2 ^ 63 then _ else _) _ _ _
  rw [if_neg (by omega)]
  exact wpAny_bind (wpAny_mkInt (wpAny_pure ⟨_, rfl, h⟩))
end
theorem call_lenO {X : Cx} : CallR X (.builtin "len") rLenO := by
  intro pins s σ H xs us Q I r h
  obtain ⟨p, ks, rfl, hp, hl, q⟩ := h
  obtain ⟨u, rfl, ru⟩ := vals1 r
  cases (show u = Value.ref p from ru)
  obtain ⟨⟨h0, o, es, ep, h1, h2, h3, h4⟩, _, _⟩ := (show ObjOk X.prog X.w H s.heap p (OddO p ks) from I.hok p _ hp)
  have e : es.size = ks.length := by
    have := paired_len h4
    rw [List.length_map] at this
    rw [this]
    simp
  exact len_dictN h0 ⟨o, es, ep, h1, h2, h3, e⟩ hl ⟨.int _, H, I.tok _, ⟨_, rfl⟩, q⟩
end Ft
set_option Elab.async false
set_option linter.all false
set_option maxRecDepth 100000
set_option maxHeartbeats 1000000
set_option pp.maxSteps 3000
set_option pp.deepTerms.threshold 8
namespace Ft
open PySem L2
section
variable {X : Cx} {pins : List (Addr × Obj)} {σ : L2.St} {H : Hp} {s : Shared} {d : Addr} {o : Obj} {ks : List V}
theorem frzO (I : Inv X pins σ H s) (h : H d = some (.frz o (OddO d ks))) : (d == sysModules) = false ∧ s.heap.get? d = some o ∧ o.ExactDict ∧ ∃ (es : Array DictEntry) (ep : Nat), o.data = .dict es ep ∧ es.size = ks.length ∧
    ∀ (i : Nat) (v : V), ks[i]? = some v → ∃ en : DictEntry, es[i]? = some en ∧ RelV v en.key := by
  obtain ⟨hd, ⟨h0, o', es, ep, ho, hx, hdt, hv⟩, _, _⟩ := I.hok d _ h
  rw [hd] at ho
  cases ho
  have hl := paired_len hv
  rw [List.length_map] at hl
  refine ⟨h0, hd, hx, es, ep, hdt, by rw [hl]; simp, fun i v e => ?_⟩
  obtain ⟨u, hu, r⟩ := paired_get hv e
  rw [List.getElem?_map] at hu
  cases he : es.toList[i]? with
  | none => rw [he] at hu; cases hu
  | some en =>
    rw [he] at hu
    obtain rfl : en.key = u := Option.some.inj hu
    exact ⟨en, by rw [← Array.getElem?_toList]; exact he, r⟩
def Itko (d : Addr) (o : Obj) (ks : List V) : It :=
  ⟨fun i H => H d = some (.frz o (OddO d ks)) ∧ i < ks.length, fun i H x H' => H' = H ∧ ks[i]? = some x, fun i H => H d = some (.frz o (OddO d ks)) ∧ ks.length ≤ i⟩
theorem turn_keysO {P : PySem.Program} {w : World} {K : PySem.W.Frag} {tg : Expr} {es : Array DictEntry} {ep : Nat} (it : Addr) (hod : o.data = .dict es ep) : Turn P w K tg (Itko d o ks) [it] it (fun i h => h.IsKeyIter it d i ks.length ep) where
  mem := by simp
  obj := fun i h st b hb => by
    have e : b = it := by simpa using hb
    subst e
    obtain ⟨oi, e, c, dd⟩ := st
    exact ⟨oi, e, fun v z => by rw [dd] at z; cases z⟩
  keep := fun i h h' st k => st.at fun oi e => k it (by simp) oi e
  item := by
    intro X hP hw hK hc i pins s σ H E I hf st hg
    subst hP hw hK
    obtain ⟨hd, hi⟩ := hg
    obtain ⟨f0, f1, f2, f3, f4, f5⟩ := hf it (by simp)
    obtain ⟨hs, hgd, hx, es', ep', hdt, hsz, ent⟩ := frzO I hd
    obtain ⟨rfl, rfl⟩ := dict_ep hod hdt
    obtain ⟨v, hkv⟩ : ∃ p, ks[i]? = some p := ⟨ks[i], List.getElem?_eq_getElem hi⟩
    obtain ⟨en, hen, hkey⟩ := ent i v hkv
    refine next_key_item st hgd hdt hsz hen fun h' st' sb => ?_
    have I1 : Inv X pins σ H { s with heap := h' } := I.turned (t' := s.toks) (fun b ob hb e => (sb.2 b hb).trans e) f0 f1 f3 f4 f5
    obtain ⟨oi, e, c, dd⟩ := id st'
    exact ⟨en.key, rfl, go_of (s := { s with heap := h' }) e c dd (by decide) ⟨v, H, I1, hkey, ⟨rfl, hkv⟩, st', fun b hb => (hf b hb).1⟩⟩
  done := by
    intro X hP hw hK hc i pins s σ H E I hf st hg
    subst hP hw hK
    obtain ⟨hd, hi⟩ := hg
    obtain ⟨f0, f1, f2, f3, f4, f5⟩ := hf it (by simp)
    obtain ⟨hs, hgd, hx, es', ep', hdt, hsz, ent⟩ := frzO I hd
    obtain ⟨rfl, rfl⟩ := dict_ep hod hdt
    exact next_key_end (I.ok.hd hc) st hgd hdt hsz hi fun h' eb => ⟨rfl, I.turned (t' := s.toks) (fun b ob hb e => eb b ob hb e) f0 f1 f3 f4 f5⟩
  self := by
    have z := (turn_keysT (P := P) (w := w) (K := K) (tg := tg) (d := d) (kvs := ks.map fun v => (([] : List Key), v)) it hod).self
    simp only [List.length_map] at z
    exact z
def iKeysO (td : TE) : TI := fun σ H R => td σ H fun x H1 => ∃ d o ks, x = .ref d ∧ H1 d = some (.frz o (OddO d ks)) ∧ R (Itko d o ks) H1
theorem pi_keysO {tg e : Expr} {td : TE} (he : PE X e td) : PI X tg e (iKeysO td) := by
  refine ⟨fun pins s σ H R I h => ?_⟩
  refine thn (he.run pins s σ H _ I h) fun u s1 ⟨x, H1, I1, rx, d, o, ks, ex, hd, q⟩ => ?_
  subst ex
  obtain rfl : u = Value.ref d := rx
  obtain ⟨hs, hgd, hx, es, ep, hdt, hsz, ent⟩ := frzO I1 hd
  refine iter_keys hs hgd hx hdt (pi_one (tk := s1.toks) I1 _ (turn_keysO _ hdt) ⟨_, Heap.get?_push_size _ rfl, rfl, ?_⟩ q)
  rw [hsz] <;> rfl
theorem walk_keysO : Walk (Itko d o ks) ks.length (fun H => H d = some (.frz o (OddO d ks))) (fun i H x H' => H' = H ∧ ks[i]? = some x) :=
  ⟨fun _ _ hi q => ⟨q, hi⟩, fun _ q => ⟨q, Nat.le_refl _⟩, fun _ _ _ _ _ _ y => y⟩
end
end Ft
set_option Elab.async false
set_option linter.all false
set_option maxRecDepth 100000
set_option maxHeartbeats 1000000
set_option pp.maxSteps 3000
set_option pp.deepTerms.threshold 8
namespace Ft
open PySem L2
section
variable {P : PySem.Program} {w : World} {K : PySem.W.Frag} {mg : Str → Option Value} {base : Heap}
/-- a key: a small atom, or a tuple -/
def keyO (H : Hp) (k : V) : Prop := smallT k = true ∨ ∃ q xs, k = .ref q ∧ H q = some (.tup xs)
def spCheckModulesO (CP : Addr) : Sp := fun vs H _ E => ∃ (dm : Addr) (ks : List V), vs = [.ref dm] ∧ H dm = some (OddO dm ks) ∧ 0 < ks.length ∧ ks.length ≤ 100 ∧ (∀ k ∈ ks, keyO H k) ∧ (ks.all wordV) = false ∧ XBadV CP .non [] H E
theorem ok_CheckModulesO {f CP : Addr} {fd : FuncData} {k : Nat} (F : Fun K "check_modules" "check_modules" sCheckModules f fd) (B : Bl mg) (hk : 9 ≤ k) (gIsWord : Own P w K mg base 1 "is_word" ["thing"] (spIsWord K)) (gFirstWrong : Own P w K mg base 9 "first_wrong" ["rows", "path", "is_within"] (spFirstWrongT 4)) (eP : ErrP P w K mg base CP) : FnOk P w K mg base (L2N.CX P w) (k + 1) f fd ["modules"] (spCheckModulesO CP) := by
  refine okN F scCheckModules (fun vs H Q E h => ?_) (fun cdv A outer s H vs Q E hr h => ?_)
  · obtain ⟨dm, ks, rfl, _⟩ := h
    rfl
  obtain ⟨dm, ks, rfl, hdm, pos, l100, hks, hbad, q⟩ := h
  refine ⟨_, (pss_cons (ps_if (PW.pt (pw_or (pt_not (pt_val (pe_callB call_isiO (by rfl) B.isinstance (by decide +kernel) (pa_cons (pv 0) (pa_cons (pe_bltn (v := .ty "dict") (by rfl) B.dict (by decide +kernel) rfl) pa_nil))))) (pw_or (pt_cmpR op_eq (pe_callB call_lenO (by rfl) B.len (by decide +kernel) (pa_cons (pv 0) pa_nil)) pe_int (nomark _)) (pw_or1 (pt_not (pt_val (pe_callB (cr_all rfl) (by rfl) B.all (by decide +kernel) (pa_cons (pe_lock (pe_lc (own := [("word", 1)]) (g := (gName 1)) (tt := tYes) (by rfl) scCheckModules.nd (pi_keysO (pv 0)) (blkOk_by (own := [("word", 1)]) (N := ["modules", "word", "path"]) (sc := defScope sCheckModules) (by decide +kernel)) (fun _ _ _ _ _ => (pg_name (i := 1) scCheckModules.nd rfl (by first | exact Or.inl rfl | exact Or.inr rfl))) (fun _ _ _ _ _ => pts_nil) (fun _ _ _ _ _ => (pe_own gIsWord (hr.mono (by omega)) (by rfl) (pa_cons (pv 1) pa_nil))))) pa_nil)))))))) (pss_one (ps_raiseP rfl eP (hr.mono (by omega)) (L2N.takes_of rfl rfl rfl rfl) (pa_cons pe_non (pa_cons (pe_tup pa_nil) pa_nil)))) pss_nil)
      (pss_one (ps_for (L2.passes_of rfl) rfl (pi_list (pe_callB (call_sortedDL rfl hr.units) (by rfl) B.sorted (by decide +kernel) (pa_cons (pv 0) pa_nil))) (pg_name (i := 1) scCheckModules.nd rfl (by first | exact Or.inl rfl | exact Or.inr rfl)) (pss_cons (ps_if (pt_not (pt_val (pe_callB call_isiT (by rfl) B.isinstance (by decide +kernel) (pa_cons (pe_dget (hu_of hr) (pv 0) (pv 1) (fun _ _ => rfl)) (pa_cons (pe_tup (pa_cons (pe_bltn (v := .ty "list") (by rfl) B.list (by decide +kernel) rfl) (pa_cons (pe_bltn (v := .ty "tuple") (by rfl) B.tuple (by decide +kernel) rfl) pa_nil))) pa_nil))))) (pss_one (ps_raiseP rfl eP (hr.mono (by omega)) (L2N.takes_of rfl rfl rfl rfl) (pa_cons (pv 1) (pa_cons (pe_tup pa_nil) pa_nil)))) pss_nil)
      (pss_cons (ps_set (i := 2) scCheckModules.nd rfl (by first | exact Or.inl rfl | exact Or.inr rfl) (pe_own gFirstWrong (hr.mono (by omega)) (by rfl) (pa_cons (pe_dget (hu_of hr) (pv 0) (pv 1) (fun _ _ => rfl)) (pa_cons (pe_tup pa_nil) (pa_cons pe_bl pa_nil)))))
      (pss_one (ps_if (pt_cmpR op_notN (pv 2) pe_non (nomark _)) (pss_one (ps_raiseP rfl eP (hr.mono (by omega)) (L2N.takes_of rfl rfl rfl rfl) (pa_cons (pv 1) (pa_cons (pv 2) pa_nil)))) pss_nil))))))), ?_⟩
  refine ⟨_, rfl, dm, ks, rfl, hdm, true, rfl, iteF ?_⟩
  refine ⟨_, rfl, dm, ks, rfl, hdm, l100, rfl, _, rfl, ?_⟩
  have e0 : decide (V.int ((ks.length : Nat) : Int) = V.int 0) = false := decide_eq_false (fun e => by
    have := V.int.inj e
    omega)
  rw [e0]
  refine iteF ?_
  -- the keys
  refine ⟨dm, OddO dm ks, hdm, trivial, fun od => ?_⟩
  refine ⟨_, rfl, dm, od, ks, rfl, upd_same, fun L nL => ?_⟩
  have Ld : L ≠ dm := fun e => by rw [e, upd_same] at nL; cases nL
  refine lc_it walk_keysO (fun i H' => Same (upd H dm (.frz od (OddO dm ks))) H' ∧ H' L = some (.lst (((ks.take i).map wordV).map V.bl)))
    ⟨Same.new nL, upd_same⟩ (fun i H' _ ⟨sm, _⟩ => sm _ _ upd_same) ?_ ?_
  · rintro i x H1 H2 hi ⟨sm, hL⟩ ⟨rfl, hkv⟩
    refine ⟨rfl, ?_⟩
    have hs := hks _ (List.mem_of_getElem? hkv)
    have kn : Known K H2 x := by
      rcases hs with hs | ⟨q, xs, rfl, hq⟩
      rotate_left
      · exact .inr (.inr (.inr (.inr ⟨q, "tuple", rfl, seq_ty (kd := false) (xs := xs) (sm _ _ (by rw [upd_ne (ne_of hq hdm (fun z => nomatch z))]; exact hq)), by simp⟩)))
      obtain ⟨h1, h2⟩ := smallT_inv hs
      cases x with
      | non => exact .inr (.inl rfl)
      | bl b => exact .inr (.inr (.inl ⟨b, rfl⟩))
      | int j => exact .inr (.inr (.inr (.inl ⟨j, rfl⟩)))
      | str z => exact .inl ⟨z, rfl, smallE (by have := h2 z rfl; omega)⟩
      | _ => cases h1
    refine ⟨_, rfl, x, rfl, kn, fun H3 s3 => ?_⟩
    refine ⟨_, s3 _ _ hL, by rw [List.length_map, List.length_map, List.length_take]; exact small (by omega), Same.upN (Same.trans sm s3) nL, ?_⟩
    rw [upd_same, List.take_add_one, hkv, List.map_append, List.map_append]
    rfl
  · rintro H1 ⟨sm, hL⟩
    have hd1 : H1 dm = some (.frz od (OddO dm ks)) := sm _ _ upd_same
    have sm1 : Same H (upd H1 dm (OddO dm ks)) := fun b o e => by
      by_cases eb : b = dm
      · rw [eb, hdm] at e
        rw [eb, upd_same]; exact e
      · rw [upd_ne eb]
        exact sm _ _ (by rw [upd_ne eb]; exact e)
    rw [List.take_length] at hL
    refine ⟨hd1, L, _, rfl, SqL.of (by rw [upd_ne Ld]; exact hL), ?_⟩
    have ea : ((ks.map wordV).all id) = ks.all wordV := by rw [List.all_map]; rfl
    rw [ea, hbad]
    refine ⟨_, rfl, ?_⟩
    generalize upd H1 dm _ = G at *
    exact iteT ⟨Nat.zero_le _, fun t1 nt1 => mkE2 fun d nd => q _ d _ (Same.trans sm1 (Same.new nt1)) ⟨t1, rfl, upd_same⟩ nd⟩
end
end Ft
set_option Elab.async false
set_option linter.all false
set_option maxRecDepth 100000
set_option maxHeartbeats 1000000
set_option pp.maxSteps 3000
set_option pp.deepTerms.threshold 8
namespace Ft
open PySem L2
section
variable {P : PySem.Program} {w : World} {K : PySem.W.Frag} {mg : Str → Option Value} {base : Heap}
def spCheckNo (CP : Addr) : Sp := fun vs H Q E => spCheckModulesN CP vs H Q E ∨ spCheckModulesO CP vs H Q E
def spProgramInitN (C CP : Addr) : Sp := fun vs H Q E => ∃ (x dx : Addr) (v : V), vs = [.ref x, v] ∧ H x = some (.ins C dx []) ∧ spCheckNo CP [v] H Q E
theorem ok_ProgramInitN {f C CP : Addr} {fd : FuncData} {k : Nat} {spA : Sp} (F : Fun K "__init__" "Program.__init__" sProgramInit f fd) (B : Bl mg) (hk : 10 ≤ k) (gECheckModules : OwnE P w K mg base 10 "check_modules" ["modules"] (fun vs H Q E => spA vs H Q E ∨ spCheckNo CP vs H Q E)) (hA : ∀ v H Q Q' E, spCheckNo CP [v] H Q E → spCheckNo CP [v] H Q' E) : FnOk P w K mg base (L2N.CX P w) (k + 1) f fd ["self", "modules"] (spProgramInitN C CP) := by
  refine okN F scProgramInit (fun vs H Q E h => ?_) (fun cdv A outer s H vs Q E hr h => ?_)
  · obtain ⟨x, dx, v, rfl, _⟩ := h
    rfl
  obtain ⟨x, dx, v, rfl, hx, q⟩ := h
  refine ⟨_, (pss_cons (ps_expr (pe_ownE gECheckModules (hr.mono (by omega)) (L2N.takes_of rfl rfl rfl rfl) (by rfl) (pa_cons (pv 1) pa_nil)))
      pss_never), ?_⟩
  exact ⟨_, rfl, .inr (hA _ _ _ _ _ q)⟩
theorem checkNo_any {CP : Addr} : ∀ (v : V) (H : Hp) (Q Q' : VK) (E : XK), spCheckNo CP [v] H Q E → spCheckNo CP [v] H Q' E := fun v H Q Q' E h => h
end
end Ft
set_option Elab.async false
set_option linter.all false
set_option maxRecDepth 100000
set_option maxHeartbeats 1000000
set_option pp.maxSteps 3000
set_option pp.deepTerms.threshold 8
namespace Ft
open PySem L2
theorem hu64d {A : Around} {k : Nat} (hr : Room k A) : A.units + 64 < cLine := by have := hr.un; omega
section
variable {prog : Program} {w : World} {A : Around} {E : Value → Shared → Prop} {s : Shared}
theorem quiet_among {a : Addr} {k : List Key} {stored : List Value} {Q : Bool → Shared → Prop} (hk : (tupleKind (mixKind prog w)).is s.heap k a) (hst : ∀ v ∈ stored, ∃ z t, v = .str z t) (h : Q false s) : wpAny (model prog w) A (tableMayTell (.ref a) stored) Q E s := by
  unfold tableMayTell
  split
  · exact wpAny_pure h
  · refine wpAny_bind ((tupleKind (mixKind prog w)).quiet hk ?_)
    simp only [Bool.not_true, Bool.false_eq_true, if_false]
    refine wpAny_bind ?_
    refine wpAny_forIn_list _ (fun rest r s' => s' = s ∧ r = (none, ()) ∧ ∀ v ∈ rest, ∃ z t, v = .str z t) _ ?_ ?_ _ _ ⟨rfl, rfl, hst⟩
    · rintro x rest r s' ⟨rfl, rfl, hr⟩
      obtain ⟨z, t, rfl⟩ := hr x List.mem_cons_self
      refine wpAny_bind (QuietAt.byValue (w := w) rfl A E _ ?_)
      simp only [Bool.not_true, Bool.false_eq_true, if_false]
      exact wpAny_pure ⟨rfl, rfl, fun v hv => hr v (List.mem_cons_of_mem _ hv)⟩
    · rintro r s' ⟨rfl, rfl, _⟩
      exact wpAny_pure h
/-- a tuple is not found among texts -/
theorem find_ref {d a : Addr} {o : Obj} {es : Array DictEntry} {ep : Nat} {k : List Key} {its : Array Value} {h : Int} {Q : Option Nat → Shared → Prop} (hu : A.units < cLine) (ho : s.heap.get? d = some o) (hd : o.data = .dict es ep) (hs : ∀ e ∈ es, ∃ z t, e.key = .str z t) (hk : (tupleKind (mixKind prog w)).is s.heap k a) (ht : s.heap.IsTuple a its) (q : Q none s) : wpAny (model prog w) A (dictFind d (.ref a) h) Q E s := by
  have hany : ¬ (es.any fun e => e.key == Value.ref a && e.hash != h) = true := by
    rw [← Array.any_toList, List.any_eq_true]
    rintro ⟨e, hin, hc⟩
    obtain ⟨z, t, hkey⟩ := hs e (Array.mem_toList_iff.mp hin)
    rw [hkey] at hc
    simp at hc
  have hst : ∀ v ∈ (placesWithHash es.size (fun i => es[i]?.map (·.hash)) h).filterMap (fun i => es[i]?.map (·.key)), ∃ z t, v = .str z t := by
    intro v hv
    obtain ⟨i, _, hi⟩ := List.mem_filterMap.mp hv
    cases hei : es[i]? with
    | none => rw [hei] at hi; cases hi
    | some e =>
      rw [hei] at hi
      obtain rfl : e.key = v := by simpa using hi
      exact hs e (Array.mem_of_getElem? hei)
  have hone : ¬ (((placesWithHash es.size (fun i => es[i]?.map (·.hash)) h).filterMap (fun i => es[i]?.map (·.key))) == [Value.ref a]) = true := by
    intro e
    have e := eq_of_beq e
    obtain ⟨z, t, e2⟩ := hst (.ref a) (by rw [e]; simp)
    cases e2
  unfold dictFind
  refine wpAny_holding ?_
  refine wpAny_bind (wpAny_dictEntries ho hd ?_)
  dsimp only
  rw [if_neg (show ¬ ((Value.ref a :: (placesWithHash es.size (fun i => es[i]?.map (·.hash)) h).filterMap (fun i => es[i]?.map (·.key))).all carriedByValue) = true by simp [carriedByValue])]
  rw [if_neg hany, if_neg hone]
  refine wpAny_bind (quiet_among hk hst ?_)
  rw [if_neg (by simp)]
  refine wpAny_bind ?_
  refine wpAny_forIn_list _ (fun rest b s' => s' = s ∧ b = (none, none)) _ ?_ ?_ _ _ ⟨rfl, rfl⟩
  · rintro x rest b s' ⟨rfl, rfl⟩
    cases he : es[x]? with
    | none => exact wpAny_pure ⟨rfl, rfl⟩
    | some e =>
      obtain ⟨z, t, hkey⟩ := hs e (Array.mem_of_getElem? he)
      dsimp only
      by_cases hh : (e.hash == h) = true
      · rw [if_pos hh, hkey]
        refine wpAny_bind (wpAny_dictEpoch ho hd (wpAny_bind (SeqAt.EqAt.str_tuple z t ht hu _ _ _ _ (wpAny_bind (wpAny_dictEpoch ho hd ?_)))))
        show wpAny _ _ (if (ep != ep) = true then _ else _) _ E _
        rw [if_neg (by simp)]
        simp only [Bool.false_eq_true, if_false]
        refine wpAny_bind (wpAny_rule ?_)
        first
          | exact wpAny_pure ⟨rfl, rfl⟩
          | exact wpAny_bind (wpAny_pure (wpAny_pure ⟨rfl, rfl⟩))
      · rw [if_neg hh]
        exact wpAny_pure ⟨rfl, rfl⟩
  · rintro b s' ⟨rfl, rfl⟩
    exact wpAny_pure q
/-- .. and so it is stored behind them -/
theorem set_ref {d a : Addr} {o : Obj} {es : Array DictEntry} {ep : Nat} {k : List Key} {its : Array Value} {x : Value} {Q : Unit → Shared → Prop} (hu : A.units + 8 < cLine) (ho : s.heap.get? d = some o) (hx : o.ExactDict) (hd : o.data = .dict es ep) (hs : ∀ e ∈ es, ∃ z t, e.key = .str z t) (hz : es.size ≤ sizeLine) (hk : (tupleKind (mixKind prog w)).is s.heap k a) (ht : s.heap.IsTuple a its)
    (hQ : ∀ h' o' hh tk, h'.get? d = some o' → o'.ExactDict → o'.data = .dict (es.push ⟨hh, .ref a, x⟩) (ep + 1) → Heap.SameBut d s.heap h' → Q () { s with heap := h', toks := tk }) : wpAny (model prog w) A (dictSet d (.ref a) x) Q E s := by
  unfold dictSet
  refine wpAny_holding ?_
  refine wpAny_bind ((tupleKind (mixKind prog w)).pyHash (by show A.units < cLine; omega) hk ?_)
  unfold dictSetHashed
  refine wpAny_holding ?_
  refine wpAny_bind (find_ref (s := { s with toks := s.toks + _ }) (by omega) ho hd hs hk ht ?_)
  exact wpAny_bind (wpAny_rule (wpAny_updateDictKeys (hz := hz) (s := { s with toks := s.toks + _ }) ho hd (hQ _ _ _ _ (Heap.get?_update_self _ ho (Obj.isFreed_of_dict (Obj.data_mapDictKeys hd _))) (hx.mapDictKeys _) (Obj.data_mapDictKeys hd _) (Heap.SameBut.update ..))))
/-- a display of one tuple key -/
theorem display_ref {env : Env} {k e : Expr} {pos : Pos} {Q : Value → Shared → Prop} (hu : A.units + 16 < cLine)
    (h : wpAny (model prog w) A (evalPairs (pairTrees [some k] [e] env pos)) (fun vs s₁ => ∃ a x kk its, vs = [(.ref a, x)] ∧ (tupleKind (mixKind prog w)).is s₁.heap kk a ∧ s₁.heap.IsTuple a its ∧ s₁.heap.DictOf (mixKind prog w) s.heap.objs.size [] ∧
      ∀ h' o' ep hh tk, h'.get? s.heap.objs.size = some o' → o'.ExactDict → o'.data = .dict #[⟨hh, .ref a, x⟩] ep → Heap.SameBut s.heap.objs.size s₁.heap h' → Q (.ref s.heap.objs.size) { s₁ with heap := h', toks := tk }) E
      { s with heap := s.heap.push { cls := .type "dict", data := .dict #[] } }) :
    wpAny (model prog w) A (eval (.Dict [some k] [e] pos) env) Q E s := by
  rw [arm_eval_Dict, zip_pairTrees [some k] [e] env pos rfl rfl, dictDisplay_pairs _ (by intro z; cases z) (by show 1 < 17; decide)]
  refine wpAny_bind (wpAny_standAt (wpAny_bind ?_))
  unfold subDict
  refine wpAny_bind (wpAny_alloc ?_)
  refine wpAny_bind (wpAny_holding ?_)
  rw [if_pos (by show 1 ≤ 15; decide)]
  refine wpAny_bind (wpAny_mono h (fun vs s₁ h₁ => ?_) fun _ _ e => e)
  obtain ⟨a, x, kk, its, rfl, hk, ht, hm, hQ⟩ := h₁
  refine wpAny_holding ?_
  rw [List.forIn_cons]
  obtain ⟨o, es, ep, ho, hc, hd, hks, hp, hn⟩ := hm
  have e0 : es = #[] := by
    have e1 := hp.length
    have e2 : es.toList.length = es.size := by simp
    exact Array.eq_empty_of_size_eq_zero (by rw [← e2, e1]; rfl)
  subst e0
  refine wpAny_bind (wpAny_bind (wpAny_bind (set_ref (by omega) ho hc hd (by simp) (by decide) hk ht fun h' o' hh tk g1 g2 g3 g4 => wpAny_pure ?_)))
  dsimp only
  rw [List.forIn_nil]
  exact wpAny_pure (wpAny_pure (wpAny_pure (wpAny_pure (hQ h' o' _ hh tk g1 g2 g3 g4))))
/-- a display of a text and a tuple key -/
theorem display_ref2 {env : Env} {k1 e1 k e : Expr} {pos : Pos} {Q : Value → Shared → Prop} (hu : A.units + 16 < cLine)
    (h : wpAny (model prog w) A (evalPairs (pairTrees [some k1, some k] [e1, e] env pos)) (fun vs s₁ => ∃ z t y a x kk its, vs = [(.str z t, y), (.ref a, x)] ∧ (tupleKind (mixKind prog w)).is s₁.heap kk a ∧ s₁.heap.IsTuple a its ∧ a ≠ s.heap.objs.size ∧ s₁.heap.DictOf (mixKind prog w) s.heap.objs.size [] ∧
      ∀ h' o' es ep z2 t2 tk, h'.get? s.heap.objs.size = some o' → o'.ExactDict → o'.data = .dict es ep → es.toList.map (·.key) = [.str z2 t2, .ref a] → z2 = z → Heap.SameBut s.heap.objs.size s₁.heap h' → Q (.ref s.heap.objs.size) { s₁ with heap := h', toks := tk }) E
      { s with heap := s.heap.push { cls := .type "dict", data := .dict #[] } }) :
    wpAny (model prog w) A (eval (.Dict [some k1, some k] [e1, e] pos) env) Q E s := by
  rw [arm_eval_Dict, zip_pairTrees [some k1, some k] [e1, e] env pos rfl rfl, dictDisplay_pairs _ (by intro z; cases z) (by show 2 < 17; decide)]
  refine wpAny_bind (wpAny_standAt (wpAny_bind ?_))
  unfold subDict
  refine wpAny_bind (wpAny_alloc ?_)
  refine wpAny_bind (wpAny_holding ?_)
  rw [if_pos (by show 2 ≤ 15; decide)]
  refine wpAny_bind (wpAny_mono h (fun vs s₁ h₁ => ?_) fun _ _ e => e)
  obtain ⟨z, t, y, a, x, kk, its, rfl, hk, ht, hne, hm, hQ⟩ := h₁
  refine wpAny_holding ?_
  rw [List.forIn_cons]
  refine wpAny_bind (wpAny_bind (wpAny_bind (wpAny_dictSet_pairs (knd := mixKind prog w) (k := .inr z) (by show Value.isStrOf z (.str z t) = true; unfold Value.isStrOf; simp) hm (fun h1 hm1 hs1 => wpAny_pure ?_) (by decide))))
  dsimp only
  rw [List.forIn_cons]
  obtain ⟨o0, es0, ep0, ho0, hc0, hd0, _⟩ := hm
  have hk1 : (tupleKind (mixKind prog w)).is h1 kk a := (tupleKind (mixKind prog w)).keeps hk ho0 hd0 hs1
  have ht1 : h1.IsTuple a its := by
    obtain ⟨o3, e3, r3⟩ := ht
    exact ⟨o3, (hs1.2 a hne).trans e3, r3⟩
  obtain ⟨o, es, ep, ho, hc, hd, hks, hp, hn⟩ := hm1
  obtain ⟨e0, z2, t2, ek, e00, ez⟩ : ∃ e0 z2 t2, es = #[e0] ∧ e0.key = .str z2 t2 ∧ z2 = z := by
    obtain ⟨l⟩ := es
    have hp' : Pairs (mixKind prog w) l [(.inr z, y)] := hp
    cases hp' with
    | cons g1 g2 g3 =>
      cases g3
      rename_i e0
      have g1' : keyIs (.inr z) e0.key = true := g1
      rcases keyIs_shape g1' with ⟨i, t', e1, _⟩ | ⟨x', t', e1, e2⟩
      · cases e1
      · injection e1 with e1
        exact ⟨e0, x', t', rfl, e2, e1.symm⟩
  subst ek
  refine wpAny_bind (wpAny_bind (set_ref (s := { s₁ with heap := h1, toks := s₁.toks + 1 }) (by omega) ho hc hd (by
    intro e' he'
    have : e' = e0 := by simpa using he'
    rw [this]
    exact ⟨_, _, e00⟩) (by show 1 ≤ sizeLine; decide) hk1 ht1 fun h' o' hh tk g1 g2 g3 g4 => wpAny_pure ?_))
  dsimp only
  rw [List.forIn_nil]
  exact wpAny_pure (wpAny_pure (wpAny_pure (wpAny_pure (hQ h' o' _ _ z2 t2 tk g1 g2 g3 (by simp [e00]) ez (hs1.trans g4)))))
end
/-- {(..): v}, the tuple one of ints and texts -/
def tDispR (tk tv : TE) : TE := fun σ H Q => ∀ p, H p = none → tk σ (upd H p (.dK [])) fun x H1 => tv σ H1 fun y H2 => H2 p = some (.dK []) ∧ ∃ (a : Addr) (ks : List Key), x = .ref a ∧ H2 a = some (.tup (ks.map kV)) ∧ Q (.ref p) (upd H2 p (OddO p [x]))
theorem pe_dispR {X : Cx} {pos : Pos} {k e : Expr} {tk tv : TE} (hu : X.A.units + 64 < cLine) (hk : PE X k tk) (hv : PE X e tv) : PE X (.Dict [some k] [e] pos) (tDispR tk tv) := by
  refine ⟨fun pins s σ H Q I q => ?_⟩
  have hn := I.hok.fresh (Nat.le_refl s.heap.objs.size)
  have I1 := I.laid (a := s.heap.objs.size) (o := .dK []) (h' := s.heap.push { cls := .type "dict", data := .dict #[] }) (t' := s.toks) (fun _ _ q => Heap.get?_push_of_some _ q) (Nat.le_refl _) (dk_empty s.heap I.big)
  have q1 : tPairs [(tk, tv)] σ (upd H s.heap.objs.size (.dK [])) (fun ps H2 => match ps with
    | [(x, y)] => H2 s.heap.objs.size = some (.dK []) ∧ ∃ (a : Addr) (ks : List Key), x = .ref a ∧ H2 a = some (.tup (ks.map kV)) ∧ Q (.ref s.heap.objs.size) (upd H2 s.heap.objs.size (OddO s.heap.objs.size [x]))
    | _ => False) := q _ hn
  refine display_ref (by omega) (thn ((pps_cons hk hv pps_nil).run pins _ σ _ _ I1 q1) fun ws s2 ⟨ps, H2, I2, rel, hq⟩ => ?_)
  cases rel with
  | nil => exact hq.elim
  | @cons a b as bs h t =>
    cases t with
    | cons _ _ => exact hq.elim
    | nil =>
      obtain ⟨x, y⟩ := a
      obtain ⟨v, u⟩ := b
      obtain ⟨e, ra, ks, rfl, hta, q2⟩ := hq
      obtain ⟨rx, ry⟩ := h
      obtain ⟨z, hd, vs0, r0, dd⟩ := dk_of I2.hok e
      cases r0
      obtain rfl : v = Value.ref ra := rx
      have kk := key_of I2.hok hta
      obtain ⟨_, its, _, ht⟩ := (show ObjOk X.prog X.w H2 s2.heap ra (.tup (ks.map kV)) from I2.hok ra _ hta)
      refine ⟨ra, u, ks, its.toArray, rfl, kk, ht, dd, fun h' o' ep hh tk g1 g2 g3 hs => ⟨.ref s.heap.objs.size, _, ?_, rfl, q2⟩⟩
      refine d_write I2 (by rw [e]; exact True.intro) hs ⟨_, g1⟩ ⟨⟨hd, o', _, ep, g1, g2, g3, .cons rfl .nil⟩, ⟨_, g1⟩, fun h1 h2 ⟨k0, o2, es, ep2, k1, k2, k3, k4⟩ hkk => ⟨k0, o2, es, ep2, hkk _ k1, k2, k3, k4⟩⟩
/-- {"a": u, (..): v} -/
def tDispR2 (tk1 tv1 tk tv : TE) : TE := fun σ H Q => ∀ p, H p = none → tk1 σ (upd H p (.dK [])) fun x1 H1 => tv1 σ H1 fun y1 H2 => tk σ H2 fun x H3 => tv σ H3 fun y H4 => H4 p = some (.dK []) ∧ ∃ z, x1 = .str z ∧ ∃ (a : Addr) (ks : List Key), x = .ref a ∧ H4 a = some (.tup (ks.map kV)) ∧ Q (.ref p) (upd H4 p (OddO p [.str z, x]))
theorem pe_dispR2 {X : Cx} {pos : Pos} {k1 e1 k e : Expr} {tk1 tv1 tk tv : TE} (hu : X.A.units + 64 < cLine) (hk1 : PE X k1 tk1) (hv1 : PE X e1 tv1) (hk : PE X k tk) (hv : PE X e tv) : PE X (.Dict [some k1, some k] [e1, e] pos) (tDispR2 tk1 tv1 tk tv) := by
  refine ⟨fun pins s σ H Q I q => ?_⟩
  have hn := I.hok.fresh (Nat.le_refl s.heap.objs.size)
  have I1 := I.laid (a := s.heap.objs.size) (o := .dK []) (h' := s.heap.push { cls := .type "dict", data := .dict #[] }) (t' := s.toks) (fun _ _ q => Heap.get?_push_of_some _ q) (Nat.le_refl _) (dk_empty s.heap I.big)
  have q1 : tPairs [(tk1, tv1), (tk, tv)] σ (upd H s.heap.objs.size (.dK [])) (fun ps H4 => match ps with
    | [(x1, _), (x, _)] => H4 s.heap.objs.size = some (.dK []) ∧ ∃ z, x1 = .str z ∧ ∃ (a : Addr) (ks : List Key), x = .ref a ∧ H4 a = some (.tup (ks.map kV)) ∧ Q (.ref s.heap.objs.size) (upd H4 s.heap.objs.size (OddO s.heap.objs.size [.str z, x]))
    | _ => False) := q _ hn
  refine display_ref2 (by omega) (thn ((pps_cons hk1 hv1 (pps_cons hk hv pps_nil)).run pins _ σ _ _ I1 q1) fun ws s2 ⟨ps, H2, I2, rel, hq⟩ => ?_)
  cases rel with
  | nil => exact hq.elim
  | @cons a b as bs h t =>
    cases t with
    | nil => exact hq.elim
    | @cons a2 b2 as2 bs2 h2 t2 =>
      cases t2 with
      | cons _ _ => exact hq.elim
      | nil =>
        obtain ⟨x1, y1⟩ := a
        obtain ⟨v1, u1⟩ := b
        obtain ⟨x, y⟩ := a2
        obtain ⟨v, u⟩ := b2
        obtain ⟨e, zz, rfl, ra, ks, rfl, hta, q2⟩ := hq
        obtain ⟨rx1, ry1⟩ := h
        obtain ⟨rx, ry⟩ := h2
        obtain ⟨z, hd, vs0, r0, dd⟩ := dk_of I2.hok e
        cases r0
        obtain ⟨t0, e1⟩ : ∃ t0, v1 = .str zz t0 := rx1
        subst e1
        obtain rfl : v = Value.ref ra := rx
        have kk := key_of I2.hok hta
        obtain ⟨_, its, _, ht⟩ := (show ObjOk X.prog X.w H2 s2.heap ra (.tup (ks.map kV)) from I2.hok ra _ hta)
        refine ⟨zz, t0, u1, ra, u, ks, its.toArray, rfl, kk, ht, ne_of hta e (fun z => nomatch z), dd, fun h' o' es ep z2 t2 tk g1 g2 g3 g4 g5 hs => ⟨.ref s.heap.objs.size, _, ?_, rfl, q2⟩⟩
        subst g5
        have rl : Vals [.str z2, .ref ra] (es.toList.map (·.key)) := by rw [g4]; exact .cons ⟨t2, rfl⟩ (.cons rfl .nil)
        refine d_write I2 (by rw [e]; exact True.intro) hs ⟨_, g1⟩ ⟨⟨hd, o', es, ep, g1, g2, g3, rl⟩, ⟨_, g1⟩, fun h1 h2 ⟨k0, o2, es, ep2, k1, k2, k3, k4⟩ hkk => ⟨k0, o2, es, ep2, hkk _ k1, k2, k3, k4⟩⟩
end Ft
set_option Elab.async false
set_option linter.all false
set_option maxRecDepth 100000
set_option maxHeartbeats 1000000
set_option pp.maxSteps 3000
set_option pp.deepTerms.threshold 8
namespace Ft
open PySem L2
/-- what is no library, among the addresses of ok -/
def NLAt (ok : Addr → Prop) (H : Hp) (v : V) : Prop := isAtom v = true ∨ (∃ p kd xs, v = .ref p ∧ ok p ∧ H p = some (mkO kd xs)) ∨ (∃ p kvs, v = .ref p ∧ ok p ∧ H p = some (.dK kvs) ∧ kvs.length ≤ 100 ∧ (∀ kv ∈ kvs, keyS kv.1 = true) ∧ (kvs = [] ∨ (kvs.all fun kv => keyW kv.1) = false)) ∨
  ∃ p ks, v = .ref p ∧ ok p ∧ H p = some (OddO p ks) ∧ 0 < ks.length ∧ ks.length ≤ 100 ∧ (∀ k ∈ ks, smallT k = true ∨ ∃ q xs, k = .ref q ∧ ok q ∧ H q = some (.tup xs)) ∧ ks.all wordV = false
theorem NLAt.to {ok ok' : Addr → Prop} {H H' : Hp} {v : V} (h : NLAt ok H v) (k : KeepT ok ok' H H') : NLAt ok' H' v := by
  rcases h with h | ⟨p, kd, xs, e, h1, h2⟩ | ⟨p, kvs, e, h1, h2, r⟩ | ⟨p, ks, e, h1, h2, r1, r2, r3, r4⟩
  · exact .inl h
  · have := k _ _ h1 mkO_nt h2
    exact .inr (.inl ⟨p, kd, xs, e, this.1, this.2⟩)
  · have := k p (.dK kvs) h1 (fun _ z => nomatch z) h2
    exact .inr (.inr (.inl ⟨p, kvs, e, this.1, this.2, r⟩))
  · have := k p (OddO p ks) h1 (fun _ z => nomatch z) h2
    refine .inr (.inr (.inr ⟨p, ks, e, this.1, this.2, r1, r2, fun x hx => ?_, r4⟩))
    rcases r3 x hx with r3 | ⟨q, xs, e, h1, h2⟩
    · exact .inl r3
    · have := k q (.tup xs) h1 (fun _ z => nomatch z) h2
      exact .inr ⟨q, xs, e, this.1, this.2⟩
theorem NLAt.check {ok : Addr → Prop} {H : Hp} {v : V} {CP : Addr} {Q : VK} {E : XK} (h : NLAt ok H v) (x : XBadV CP .non [] H E) : spCheckNo CP [v] H Q E := by
  rcases h with h | ⟨p, kd, xs, e, h1, h2⟩ | ⟨p, kvs, e, h1, h2, r⟩ | ⟨p, ks, e, h1, h2, r1, r2, r3, r4⟩
  · exact .inl ⟨v, rfl, .inl h, x⟩
  · exact .inl ⟨v, rfl, .inr (.inl ⟨p, kd, xs, e, h2⟩), x⟩
  · exact .inl ⟨v, rfl, .inr (.inr ⟨p, kvs, e, h2, r⟩), x⟩
  · refine .inr ⟨p, ks, by rw [e], h2, r1, r2, fun y hy => ?_, r4, x⟩
    rcases r3 y hy with r3 | ⟨q, xs, e, h1, h2⟩
    · exact .inl r3
    · exact .inr ⟨q, xs, e, h2⟩
/-- te yields what is no library, beside what stands at Hb -/
def YN (ok : Addr → Prop) (Hb : Hp) (te : TE) (σ : L2.St) : Prop := ∀ (H : Hp) (Q : VK), Same Hb H → (∀ H' v, Same H H' → NLAt ok H' v → Q v H') → te σ H Q
def YNs (ok : Addr → Prop) (Hb : Hp) (n : Nat) (ts : TA) (σ : L2.St) : Prop := ∀ (H : Hp) (Q : List V → Hp → Prop), Same Hb H → (∀ H' vs, Same H H' → vs.length = n → (∀ v ∈ vs, NLAt ok H' v) → Q vs H') → ts σ H Q
section
variable {ok : Addr → Prop} {Hb : Hp} {m n : Nat} {σ : L2.St} {te : TE} {ts : TA} {t : Th}
theorem yns_nil : YNs ok Hb 0 tNil σ := fun H Q s q => q H [] (Same.refl H) rfl (fun _ z => nomatch z)
theorem yns_cons (h1 : YN ok Hb te σ) (h2 : YNs ok Hb n ts σ) : YNs ok Hb (n + 1) (tCons te ts) σ := fun H Q s q => h1 H _ s fun H1 v s1 hv => h2 H1 _ (Same.trans s s1) fun H2 vs s2 hl hvs => q H2 (v :: vs) (Same.trans s1 s2) (by rw [List.length_cons, hl]) (fun x hx => by
  rcases List.mem_cons.mp hx with rfl | hx
  · exact hv.to (KeepT.same s2)
  · exact hvs x hx)
theorem yn_c {x : V} (h : isAtom x = true) : YN ok Hb (tC x) σ := fun H Q s q => q H x (Same.refl H) (.inl h)
theorem yn_sq {us : List Th} (h : YT ok Hb m te σ (.sq us)) : YN ok Hb te σ := fun H Q s q => h H Q s fun H' v s1 hv => by
  obtain ⟨_, a, kd, xs, _, e, k, ha, _⟩ := thAt_sq hv
  exact q H' v s1 (.inr (.inl ⟨a, kd, xs, e, k, ha⟩))
theorem yn_dn (hf : ∀ x, Hb x = none → ok x) : YN ok Hb tDNewK σ := fun H Q s q p np => q _ _ (Same.new np) (.inr (.inr (.inl ⟨p, [], rfl, hf p (Same.free s np), upd_same, Nat.zero_le _, (fun kv z => by cases z), .inl rfl⟩)))
/-- some written entries -/
def YPs (ok : Addr → Prop) (Hb : Hp) (trs : List (TE × TE)) (σ : L2.St) (ks : List Key) : Prop := ∀ (H : Hp) (Q : List (V × V) → Hp → Prop), Same Hb H → (∀ H' vs, Same H H' → vs.length = ks.length → Q ((ks.zip vs).map fun kv => (kV kv.1, kv.2)) H') → tPairs trs σ H Q
theorem yps_nil : YPs ok Hb [] σ [] := fun H Q s q => q H [] (Same.refl H) rfl
theorem yps_cons {k : Key} {trs : List (TE × TE)} {ks : List Key} (h1 : YT ok Hb m te σ t) (h2 : YPs ok Hb trs σ ks) : YPs ok Hb ((tC (kV k), te) :: trs) σ (k :: ks) := fun H Q s q => h1 H _ s fun H1 v s1 hv => h2 H1 _ (Same.trans s s1) fun H2 vs s2 hl => q H2 (v :: vs) (Same.trans s1 s2) (by rw [List.length_cons, hl]; rfl)
theorem valV_fresh {k : Key} : ∀ {kvs : List (Key × V)}, k ∉ kvs.map (·.1) → valV kvs k = none
  | [], _ => rfl
  | p :: r, h => by
    rw [List.map_cons, List.mem_cons, not_or] at h
    rw [valV_neg (fun e => h.1 e.symm)]
    exact valV_fresh h.2
theorem merge_nd : ∀ {more acc : List (Key × V)}, ((acc ++ more).map (·.1)).Nodup → mergeK acc more = acc ++ more
  | [], acc, _ => by rw [List.append_nil]; rfl
  | p :: r, acc, h => by
    have hp : p.1 ∉ acc.map (·.1) := fun hm => by
      rw [List.map_append, List.nodup_append] at h
      exact h.2.2 _ hm _ (by simp) rfl
    show mergeK (putK acc p.1 p.2) r = _
    rw [putK_new _ (valV_fresh hp)]
    have e : acc ++ p :: r = (acc ++ [(p.1, p.2)]) ++ r := by simp
    rw [e] at h ⊢
    exact merge_nd h
theorem zip_keys : ∀ {ks : List Key} {vs : List V}, vs.length = ks.length → (ks.zip vs).map (·.1) = ks
  | [], [], _ => rfl
  | k :: ks, v :: vs, h => by
    rw [List.zip_cons_cons, List.map_cons, zip_keys (by simpa using h)]
  | [], _ :: _, h => by cases h
  | _ :: _, [], h => by cases h
theorem yn_disp {trs : List (TE × TE)} {ks : List Key} (hf : ∀ x, Hb x = none → ok x) (h : YPs ok Hb trs σ ks) (hl : ks.length ≤ 15) (hn : ks.Nodup) (hs : ks.all keyS = true) (hb : ks.all keyW = false) : YN ok Hb (tDisp trs) σ := fun H Q s q p np => by
  have s1 : Same H (upd H p (.dK [])) := Same.new np
  refine h _ _ (Same.trans s s1) fun H2 vs s2 hv => ⟨s2 _ _ upd_same, ks.zip vs, rfl, ?_, ?_⟩
  · rw [List.length_zip]; omega
  have ek : (mergeK [] (ks.zip vs)).map (·.1) = ks := by
    rw [merge_nd (by rw [List.nil_append, zip_keys hv]; exact hn), List.nil_append, zip_keys hv]
  refine q _ _ (Same.upN (Same.trans s1 s2) np) (.inr (.inr (.inl ⟨p, _, rfl, hf p (Same.free s np), upd_same, ?_, ?_, .inr ?_⟩)))
  · have := congrArg List.length ek
    rw [List.length_map] at this
    omega
  · intro kv hkv
    have : kv.1 ∈ ks := by rw [← ek]; exact List.mem_map_of_mem hkv
    exact List.all_eq_true.mp hs _ this
  · have : ((mergeK [] (ks.zip vs)).map (·.1)).all keyW = false := by rw [ek]; exact hb
    rw [List.all_map] at this
    exact this
theorem yn_dispO {x : V} (hf : ∀ x, Hb x = none → ok x) (hx : x = .non ∨ ∃ b, x = .bl b) (hv : YT ok Hb m te σ t) : YN ok Hb (tDispO (tC x) te) σ := fun H Q s q p np => by
  have s1 : Same H (upd H p (.dK [])) := Same.new np
  refine hv _ _ (Same.trans s s1) fun H2 v s2 _ => ⟨s2 _ _ upd_same, hx, q _ _ (Same.upN (Same.trans s1 s2) np) (.inr (.inr (.inr ⟨p, [x], rfl, hf p (Same.free s np), upd_same, by simp, by simp, fun k hk => .inl ?_, ?_⟩)))⟩
  · obtain rfl : k = x := by simpa using hk
    rcases hx with rfl | ⟨b, rfl⟩ <;> rfl
  · rcases hx with rfl | ⟨b, rfl⟩ <;> rfl
theorem yn_dispO2 {z : Str} {x : V} {te1 : TE} {t1 : Th} (hf : ∀ x, Hb x = none → ok x) (hz : z.length ≤ 1000) (hx : x = .non ∨ ∃ b, x = .bl b) (h1 : YT ok Hb m te1 σ t1) (hv : YT ok Hb m te σ t) : YN ok Hb (tDispO2 (tC (.str z)) te1 (tC x) te) σ := fun H Q s q p np => by
  have s1 : Same H (upd H p (.dK [])) := Same.new np
  refine h1 _ _ (Same.trans s s1) fun H1 v1 t1 _ => hv _ _ (Same.trans (Same.trans s s1) t1) fun H2 v t2 _ => ?_
  have s2 := Same.trans t1 t2
  refine ⟨s2 _ _ upd_same, z, rfl, hx, q _ _ (Same.upN (Same.trans s1 s2) np) (.inr (.inr (.inr ⟨p, [.str z, x], rfl, hf p (Same.free s np), upd_same, by simp, by simp, fun k hk => .inl ?_, ?_⟩)))⟩
  · simp only [List.mem_cons, List.not_mem_nil, or_false] at hk
    rcases hk with rfl | rfl
    · show (true && decide (z.length ≤ 1000)) = true
      rw [decide_eq_true hz]; rfl
    · rcases hx with rfl | ⟨b, rfl⟩ <;> rfl
  · rcases hx with rfl | ⟨b, rfl⟩
    · show (wordV (.str z) && (false && true)) = false
      cases wordV (.str z) <;> rfl
    · show (wordV (.str z) && (false && true)) = false
      cases wordV (.str z) <;> rfl
/-- a written tuple of ints and texts -/
def YK (ok : Addr → Prop) (Hb : Hp) (te : TE) (σ : L2.St) : Prop := ∀ (H : Hp) (Q : VK), Same Hb H → (∀ (H' : Hp) (a : Addr) (ks : List Key), Same H H' → ok a → H' a = some (.tup (ks.map kV)) → Q (.ref a) H') → te σ H Q
theorem yk_1 {k : Key} (hf : ∀ x, Hb x = none → ok x) : YK ok Hb (tTup (tCons (tC (kV k)) tNil)) σ := fun H Q s q => ⟨by show 1 ≤ sizeLine; decide, fun p np => q _ p [k] (Same.new np) (hf p (Same.free s np)) upd_same⟩
theorem yk_2 {k k2 : Key} (hf : ∀ x, Hb x = none → ok x) : YK ok Hb (tTup (tCons (tC (kV k)) (tCons (tC (kV k2)) tNil))) σ := fun H Q s q => ⟨by show 2 ≤ sizeLine; decide, fun p np => q _ p [k, k2] (Same.new np) (hf p (Same.free s np)) upd_same⟩
theorem yn_dispR {tk : TE} (hf : ∀ x, Hb x = none → ok x) (hk : YK ok Hb tk σ) (hv : YT ok Hb m te σ t) : YN ok Hb (tDispR tk te) σ := fun H Q s q p np => by
  have s1 : Same H (upd H p (.dK [])) := Same.new np
  refine hk _ _ (Same.trans s s1) fun H1 a ks t1 ka ha => hv _ _ (Same.trans (Same.trans s s1) t1) fun H2 v t2 _ => ?_
  have s2 := Same.trans t1 t2
  have ha2 := t2 _ _ ha
  have pa : a ≠ p := ne_of ha2 (s2 _ _ upd_same) (fun z => nomatch z)
  refine ⟨s2 _ _ upd_same, a, ks, rfl, ha2, q _ _ (Same.upN (Same.trans s1 s2) np) (.inr (.inr (.inr ⟨p, [.ref a], rfl, hf p (Same.free s np), upd_same, by simp, by simp, fun k hk => .inr ?_, rfl⟩)))⟩
  obtain rfl : k = .ref a := by simpa using hk
  exact ⟨a, _, rfl, ka, by rw [upd_ne pa]; exact ha2⟩
theorem yn_dispR2 {z : Str} {te1 tk : TE} {t1 : Th} (hf : ∀ x, Hb x = none → ok x) (hz : z.length ≤ 1000) (h1 : YT ok Hb m te1 σ t1) (hk : YK ok Hb tk σ) (hv : YT ok Hb m te σ t) : YN ok Hb (tDispR2 (tC (.str z)) te1 tk te) σ := fun H Q s q p np => by
  have s1 : Same H (upd H p (.dK [])) := Same.new np
  refine h1 _ _ (Same.trans s s1) fun H1 v1 t1 _ => hk _ _ (Same.trans (Same.trans s s1) t1) fun H2 a ks t2 ka ha => hv _ _ (Same.trans (Same.trans (Same.trans s s1) t1) t2) fun H3 v t3 _ => ?_
  have s2 := Same.trans (Same.trans t1 t2) t3
  have ha2 := t3 _ _ ha
  have pa : a ≠ p := ne_of ha2 (s2 _ _ upd_same) (fun z => nomatch z)
  refine ⟨s2 _ _ upd_same, z, rfl, a, ks, rfl, ha2, q _ _ (Same.upN (Same.trans s1 s2) np) (.inr (.inr (.inr ⟨p, [.str z, .ref a], rfl, hf p (Same.free s np), upd_same, by simp, by simp, fun k hk => ?_, ?_⟩)))⟩
  · simp only [List.mem_cons, List.not_mem_nil, or_false] at hk
    rcases hk with rfl | rfl
    · refine .inl ?_
      show (true && decide (z.length ≤ 1000)) = true
      rw [decide_eq_true hz]; rfl
    · exact .inr ⟨a, _, rfl, ka, by rw [upd_ne pa]; exact ha2⟩
  · show (wordV (.str z) && (false && true)) = false
    cases wordV (.str z) <;> rfl
theorem yn_l {us : List Th} (hf : ∀ x, Hb x = none → ok x) (h : YTs ok Hb 2 12 ts σ us) : YN ok Hb (tLst ts) σ := yn_sq (m := 3) (yt_lst hf h)
theorem yn_t {us : List Th} (hf : ∀ x, Hb x = none → ok x) (h : YTs ok Hb 2 12 ts σ us) : YN ok Hb (tTup ts) σ := yn_sq (m := 3) (yt_tup hf h)
theorem yps_s {z : Str} {trs : List (TE × TE)} {ks : List Key} (h1 : YT ok Hb 3 te σ t) (h2 : YPs ok Hb trs σ ks) : YPs ok Hb ((tC (.str z), te) :: trs) σ (.inr z :: ks) := yps_cons (m := 3) (k := .inr z) h1 h2
theorem yps_i {z : Int} {trs : List (TE × TE)} {ks : List Key} (h1 : YT ok Hb 3 te σ t) (h2 : YPs ok Hb trs σ ks) : YPs ok Hb ((tC (.int z), te) :: trs) σ (.inl z :: ks) := yps_cons (m := 3) (k := .inl z) h1 h2
theorem yn_d {trs : List (TE × TE)} {ks : List Key} (hf : ∀ x, Hb x = none → ok x) (h : YPs ok Hb trs σ ks) (hh : (decide (ks.length ≤ 15) && decide ks.Nodup && ks.all keyS && !(ks.all keyW)) = true) : YN ok Hb (tDisp trs) σ := by
  simp only [Bool.and_eq_true, decide_eq_true_eq, Bool.not_eq_true'] at hh
  exact yn_disp hf h hh.1.1.1 hh.1.1.2 hh.1.2 hh.2
theorem NLAt.new {H : Hp} {p : Addr} {o : HO} {v : V} (h : NLAt ok H v) (np : H p = none) : NLAt (fun x => ok x ∧ x ≠ p) (upd H p o) v := h.to fun b u k _ e => ⟨⟨k, ne_of_none e np⟩, by rw [upd_ne (ne_of_none e np)]; exact e⟩
theorem set_n {i : Nat} {D' : Ends} {rest : TS} (hf : ∀ x, Hb x = none → ok x) (hl : n ≤ 1000) (hg : YNs ok Hb n ts σ) (q : ∀ H' c vs, Same Hb H' → ok c → Hb c = none → H' c = some (.lst vs) → vs.length = n → (∀ v ∈ vs, NLAt (fun x => ok x ∧ x ≠ c) H' v) → rest D' (σ.set i (some (.ref c))) H') :
    tSeq (tAsg (tLst ts) (gName i)) rest D' σ Hb := hg Hb _ (Same.refl _) fun H1 vs s1 hn hvs =>
  ⟨smallE (by omega), fun p np => q _ p vs (Same.trans s1 (Same.new np)) (hf p (Same.free s1 np)) (Same.free s1 np) upd_same hn fun v hv => (hvs v hv).new np⟩
theorem cat_n {i j n0 : Nat} {D' : Ends} {rest : TS} {c : Addr} {vs : List V} (hf : ∀ x, Hb x = none → ok x) (hi : σ[i]? = some (some (.ref c))) (hc : Hb c = some (.lst vs)) (hn0 : vs.length = n0) (hv : ∀ v ∈ vs, NLAt (fun x => ok x ∧ x ≠ c) Hb v) (hl0 : n0 ≤ 1000) (hl : n ≤ 1000) (hg : YNs ok Hb n ts σ) (q : ∀ H' c vs, Same Hb H' → ok c → Hb c = none → H' c = some (.lst vs) → vs.length = n0 + n → (∀ v ∈ vs, NLAt (fun x => ok x ∧ x ≠ c) H' v) → rest D' (σ.set j (some (.ref c))) H') :
    tSeq (tAsg (tOp rCat (tVar i) (tLst ts)) (gName j)) rest D' σ Hb := ⟨_, hi, hg Hb _ (Same.refl _) fun H1 vs2 s1 hn hvs2 => by
  refine ⟨smallE (by omega), fun p np => ?_⟩
  have s2 : Same H1 (upd H1 p (.lst vs2)) := Same.new np
  refine ⟨c, p, vs, vs2, rfl, rfl, s2 _ _ (s1 _ _ hc), upd_same, smallE (by omega), fun p2 np2 => ?_⟩
  have s3 : Same (upd H1 p (.lst vs2)) (upd (upd H1 p (.lst vs2)) p2 (.lst (vs ++ vs2))) := Same.new np2
  have s13 := Same.trans s2 s3
  have fr := Same.free (Same.trans s1 s2) np2
  refine q _ p2 _ (Same.trans s1 s13) (hf p2 fr) fr upd_same (by rw [List.length_append]; omega) fun v hm => ?_
  rcases List.mem_append.mp hm with hm | hm
  · exact (((hv v hm).to (KeepT.mono fun _ k _ => k.1)).to (KeepT.same (Same.trans s1 s2))).new np2
  · exact ((hvs2 v hm).to (KeepT.same s2)).new np2⟩
end
section
variable {P : Program} {w : World} {K : PySem.W.Frag} {mg : Str → Option Value} {base : Heap}
abbrev sLNoLibrary : Stmt := topS 45
theorem scLNoLibrary : FnScope ["_law_source_here", "_law_some"] ["_law_source_here"] (defScope sLNoLibrary) := ⟨rfl, rfl, rfl, by decide +kernel, rfl, by decide +kernel, by decide +kernel⟩
def spLNoLibrary : Sp := fun vs H Q _ => ∃ (a : Addr) (n : Int), vs = [.ref a] ∧ Src H a n ∧ n + 4 < 2 ^ 40 ∧
  ∀ H' v, Fr (· ≠ a) H H' → Src H' a (n + 1) → NLAt (fun x => x ≠ a) H' v → Q v H'
theorem ok_LNoLibrary {f : Addr} {fd : FuncData} {k : Nat} (F : Fun K "_law_no_library" "_law_no_library" sLNoLibrary f fd) (B : Bl mg) (hk : 2 ≤ k) (gLPick : Own P w K mg base 2 "_law_pick" ["_law_source_here", "_law_some"] spLPick) : FnOk P w K mg base CX0 (k + 1) f fd ["_law_source_here"] spLNoLibrary := by
  refine F.ok scLNoLibrary (fun vs H Q E h => ?_) (fun cdv A outer s H vs Q E hr h => ?_)
  · obtain ⟨a, n, rfl, _⟩ := h
    rfl
  obtain ⟨a, n, rfl, sr, hn, q⟩ := h
  refine ⟨_, (pss_cons (ps_set (i := 1) scLNoLibrary.nd rfl (by first | exact Or.inl rfl | exact Or.inr rfl) (pe_lst (pa_cons pe_non (pa_cons pe_int (pa_cons pe_bl (pa_cons pe_str (pa_cons pe_str (pa_cons (pe_lst pa_nil) (pa_cons (pe_tup pa_nil) (pa_cons (pe_lst (pa_cons (pe_tup (pa_cons pe_str (pa_cons (pe_lst pa_nil) pa_nil))) pa_nil)) (pa_cons (pe_tup (pa_cons (pe_tup (pa_cons pe_str (pa_cons (pe_tup pa_nil) pa_nil))) pa_nil)) (pa_cons pe_dnewK (pa_cons (pe_lst (pa_cons pe_str pa_nil)) (pa_cons (pe_disp (pps_cons pe_str (pe_lst pa_nil) pps_nil) (by rfl) (by rfl) (fun z => by cases z) (by decide)) (pa_cons (pe_disp (pps_cons pe_str (pe_lst pa_nil) pps_nil) (by rfl) (by rfl) (fun z => by cases z) (by decide)) (pa_cons (pe_disp (pps_cons pe_int (pe_lst pa_nil) pps_nil) (by rfl) (by rfl) (fun z => by cases z) (by decide)) pa_nil))))))))))))))))
      (pss_cons (ps_set (i := 1) scLNoLibrary.nd rfl (by first | exact Or.inl rfl | exact Or.inr rfl) (pe_op op_cat (pv 1) (pe_lst (pa_cons (pe_dispO (hu64d hr) pe_non (pe_lst pa_nil)) (pa_cons (pe_dispR (hu64d hr) (pe_tup (pa_cons pe_str pa_nil)) (pe_lst pa_nil)) (pa_cons (pe_dispO (hu64d hr) pe_bl (pe_lst pa_nil)) (pa_cons (pe_disp (pps_cons pe_str (pe_lst pa_nil) pps_nil) (by rfl) (by rfl) (fun z => by cases z) (by decide)) (pa_cons (pe_disp (pps_cons pe_str (pe_lst pa_nil) pps_nil) (by rfl) (by rfl) (fun z => by cases z) (by decide)) (pa_cons (pe_disp (pps_cons pe_str (pe_lst pa_nil) pps_nil) (by rfl) (by rfl) (fun z => by cases z) (by decide)) pa_nil)))))))))
      (pss_cons (ps_set (i := 1) scLNoLibrary.nd rfl (by first | exact Or.inl rfl | exact Or.inr rfl) (pe_op op_cat (pv 1) (pe_lst (pa_cons (pe_disp (pps_cons pe_str (pe_lst pa_nil) (pps_cons pe_str (pe_lst pa_nil) pps_nil)) (by rfl) (by rfl) (fun z => by cases z) (by decide)) (pa_cons (pe_disp (pps_cons pe_str (pe_lst pa_nil) (pps_cons pe_str (pe_lst pa_nil) pps_nil)) (by rfl) (by rfl) (fun z => by cases z) (by decide)) (pa_cons (pe_disp (pps_cons pe_str pe_int (pps_cons pe_str (pe_lst (pa_cons pe_int pa_nil)) (pps_cons pe_str (pe_lst pa_nil) pps_nil))) (by rfl) (by rfl) (fun z => by cases z) (by decide)) (pa_cons (pe_disp (pps_cons pe_str (pe_lst (pa_cons pe_int pa_nil)) (pps_cons pe_int pe_non pps_nil)) (by rfl) (by rfl) (fun z => by cases z) (by decide)) pa_nil)))))))
      (pss_cons (ps_set (i := 1) scLNoLibrary.nd rfl (by first | exact Or.inl rfl | exact Or.inr rfl) (pe_op op_cat (pv 1) (pe_lst (pa_cons (pe_disp (pps_cons pe_str pe_non (pps_cons pe_str pe_int pps_nil)) (by rfl) (by rfl) (fun z => by cases z) (by decide)) (pa_cons (pe_disp (pps_cons pe_str (pe_lst pa_nil) pps_nil) (by rfl) (by rfl) (fun z => by cases z) (by decide)) (pa_cons (pe_dispO2 (hu64d hr) pe_str (pe_lst pa_nil) pe_non (pe_lst pa_nil)) (pa_cons (pe_dispR2 (hu64d hr) pe_str (pe_lst pa_nil) (pe_tup (pa_cons pe_str (pa_cons pe_int pa_nil))) (pe_lst pa_nil)) pa_nil)))))))
      (pss_cons (ps_expr (pe_bm PySem.F.plainAttrs_list PySem.F.slot_list_append PySem.F.type_list_append mt_append (pv 1) (pa_cons (pe_disp (pps_cons pe_str (pe_lst pa_nil) (pps_cons pe_str (pe_lst (pa_cons (pe_tup (pa_cons pe_str (pa_cons pe_int pa_nil))) pa_nil)) pps_nil)) (by rfl) (by rfl) (fun z => by cases z) (by decide)) pa_nil)))
      (pss_one (ps_ret (pe_own gLPick (hr.mono (by omega)) (by rfl) (pa_cons (pv 0) (pa_cons (pv 1) pa_nil)))))))))), ?_⟩
  have hf0 : ∀ x, H x = none → x ≠ a := fun x k => sr.nn k
  have hf := hf0
  dsimp only [gName]
  apply set_n (n := 14) hf (by decide)
  · repeat (first | exact yns_nil | apply yns_cons | exact yn_c rfl | exact yn_dn hf | apply yn_l hf | apply yn_t hf | apply yn_d hf | apply yn_dispO (m := 3) hf (.inl rfl) | apply yn_dispO (m := 3) hf (.inr ⟨_, rfl⟩) | apply yn_dispO2 (m := 3) hf (by decide) (.inl rfl) | apply yn_dispR (m := 3) hf (yk_1 (k := .inr _) hf) | apply yn_dispR2 (m := 3) hf (by decide) (hk := yk_2 (k := .inr _) (k2 := .inl _) hf) | exact yps_nil | apply yps_s | apply yps_i | exact yts_nil | apply yts_cons | exact yt_c (by decide +kernel) | apply yt_tup hf | apply yt_lst hf | decide +kernel)
  intro K0 c0 vs0 z0 k0 nc0 hc0 hn0 hv0
  replace hf : ∀ x, K0 x = none → x ≠ a := fun x h => hf0 x (Same.free z0 h)
  apply cat_n (n := 6) hf rfl hc0 hn0 hv0 (by decide) (by decide)
  · repeat (first | exact yns_nil | apply yns_cons | exact yn_c rfl | exact yn_dn hf | apply yn_l hf | apply yn_t hf | apply yn_d hf | apply yn_dispO (m := 3) hf (.inl rfl) | apply yn_dispO (m := 3) hf (.inr ⟨_, rfl⟩) | apply yn_dispO2 (m := 3) hf (by decide) (.inl rfl) | apply yn_dispR (m := 3) hf (yk_1 (k := .inr _) hf) | apply yn_dispR2 (m := 3) hf (by decide) (hk := yk_2 (k := .inr _) (k2 := .inl _) hf) | exact yps_nil | apply yps_s | apply yps_i | exact yts_nil | apply yts_cons | exact yt_c (by decide +kernel) | apply yt_tup hf | apply yt_lst hf | decide +kernel)
  intro K1 c1 vs1 y1 k1 nc1 hc1 hn1 hv1
  have z1 := Same.trans z0 y1
  replace hf : ∀ x, K1 x = none → x ≠ a := fun x h => hf0 x (Same.free z1 h)
  apply cat_n (n := 4) hf rfl hc1 hn1 hv1 (by decide) (by decide)
  · repeat (first | exact yns_nil | apply yns_cons | exact yn_c rfl | exact yn_dn hf | apply yn_l hf | apply yn_t hf | apply yn_d hf | apply yn_dispO (m := 3) hf (.inl rfl) | apply yn_dispO (m := 3) hf (.inr ⟨_, rfl⟩) | apply yn_dispO2 (m := 3) hf (by decide) (.inl rfl) | apply yn_dispR (m := 3) hf (yk_1 (k := .inr _) hf) | apply yn_dispR2 (m := 3) hf (by decide) (hk := yk_2 (k := .inr _) (k2 := .inl _) hf) | exact yps_nil | apply yps_s | apply yps_i | exact yts_nil | apply yts_cons | exact yt_c (by decide +kernel) | apply yt_tup hf | apply yt_lst hf | decide +kernel)
  intro K2 c2 vs2 y2 k2 nc2 hc2 hn2 hv2
  have z2 := Same.trans z1 y2
  replace hf : ∀ x, K2 x = none → x ≠ a := fun x h => hf0 x (Same.free z2 h)
  apply cat_n (n := 4) hf rfl hc2 hn2 hv2 (by decide) (by decide)
  · repeat (first | exact yns_nil | apply yns_cons | exact yn_c rfl | exact yn_dn hf | apply yn_l hf | apply yn_t hf | apply yn_d hf | apply yn_dispO (m := 3) hf (.inl rfl) | apply yn_dispO (m := 3) hf (.inr ⟨_, rfl⟩) | apply yn_dispO2 (m := 3) hf (by decide) (.inl rfl) | apply yn_dispR (m := 3) hf (yk_1 (k := .inr _) hf) | apply yn_dispR2 (m := 3) hf (by decide) (hk := yk_2 (k := .inr _) (k2 := .inl _) hf) | exact yps_nil | apply yps_s | apply yps_i | exact yts_nil | apply yts_cons | exact yt_c (by decide +kernel) | apply yt_tup hf | apply yt_lst hf | decide +kernel)
  intro K3 c3 vs3 y3 k3 nc3 hc3 hn3 hv3
  have z3 := Same.trans z2 y3
  replace hf : ∀ x, K3 x = none → x ≠ a := fun x h => hf0 x (Same.free z3 h)
  dsimp only [tSeq, tDrop, tBM, tCons, tNil]
  refine ⟨_, rfl, .inl ⟨rfl, _, SqL.of hc3⟩, ?_⟩
  have nc : H c3 = none := Same.free z2 nc3
  have hf3 : ∀ x, K3 x = none → x ≠ a ∧ x ≠ c3 := fun x h => ⟨hf x h, fun e => by rw [e, hc3] at h; cases h⟩
  refine (show YN (fun x => x ≠ a ∧ x ≠ c3) K3 _ _ from by
    apply yn_d hf3
    repeat (first | exact yps_nil | apply yps_s | apply yps_i | exact yts_nil | apply yts_cons | exact yt_c (by decide +kernel) | apply yt_tup hf3 | apply yt_lst hf3 | decide +kernel)) K3 _ (Same.refl _) fun K4 v4 s4 hv4 => ?_
  have hc4 := s4 _ _ hc3
  refine ⟨c3, vs3, v4, rfl, rfl, hc4, small (by omega), _, rfl, _, rfl, ?_⟩
  have k3 := k3
  have z4 := Same.trans z3 s4
  have k45 : KeepT (fun x => x ≠ a ∧ x ≠ c3) (fun x => x ≠ a) K4 (upd K4 c3 (.lst (vs3 ++ [v4]))) := fun b o k _ e => ⟨k.1, by rw [upd_ne k.2]; exact e⟩
  have srK : Src (upd K4 c3 (.lst (vs3 ++ [v4]))) a n := (sr.fr (ok := fun _ => True) (Fr.same z4) trivial).ne k3.symm
  have fK : Fr (· ≠ a) H (upd K4 c3 (.lst (vs3 ++ [v4]))) := fun b o k e => by rw [upd_ne (ne_of_none e nc)]; exact z4 _ _ e
  refine ⟨a, c3, vs3 ++ [v4], n, rfl, srK, by omega, k3, upd_same, by simp, by simp; omega, fun H' x f s hx => ?_⟩
  refine q H' x (fK.trans f) s ?_
  have hx2 : NLAt (fun y => y ≠ a) (upd K4 c3 (.lst (vs3 ++ [v4]))) x := by
    rcases List.mem_append.mp hx with hm | hm
    · exact ((hv3 x hm).to (KeepT.same s4)).to k45
    · rw [List.mem_singleton.mp hm]
      exact hv4.to k45
  exact hx2.to (KeepT.fr f fun _ k => k)
end
end Ft
set_option Elab.async false
set_option linter.all false
set_option maxRecDepth 100000
set_option maxHeartbeats 1000000
set_option pp.maxSteps 3000
set_option pp.deepTerms.threshold 8
namespace Ft
open PySem L2
theorem putK_new {kvs : List (Key × V)} {lib : LibT} {z : Str} {v : V} {t : Th} {R : Key × V → Str × Th → Prop} (hk : ∀ kv m, R kv m → kv.1 = Sum.inr m.1) (h : Paired R kvs lib) (hz : z ∉ lib.map (·.1)) (r : R (Sum.inr z, v) (z, t)) : Paired R (putK kvs (Sum.inr z) v) (lib ++ [(z, t)]) := by
  have e : putK kvs (Sum.inr z) v = kvs ++ [(Sum.inr z, v)] := putK_newA fun h2 => by
    obtain ⟨kv, m1, m2⟩ := List.mem_map.mp h2
    obtain ⟨y, hy, ry⟩ : ∃ y ∈ lib, R kv y := by
      obtain ⟨i, hi, e⟩ := List.mem_iff_getElem.mp m1
      obtain ⟨y, hy, r⟩ := paired_get h (i := i) (x := kv) (by rw [List.getElem?_eq_getElem hi, e])
      exact ⟨y, List.mem_of_getElem? hy, r⟩
    have := hk _ _ ry
    rw [this] at m2
    exact hz (List.mem_map.mpr ⟨y, hy, Sum.inr.inj m2⟩)
  rw [e]
  exact paired_app r h
section
variable {P : Program} {w : World} {K : PySem.W.Frag} {mg : Str → Option Value} {base : Heap}
abbrev sLHanded : Stmt := topS 42
theorem scLHanded : FnScope ["_law_source_here", "_law_library_here", "_law_left", "_law_found", "_law_name"] ["_law_source_here", "_law_library_here"] (defScope sLHanded) := ⟨rfl, rfl, rfl, by decide +kernel, rfl, by decide +kernel, by decide +kernel⟩
def spLHandedT : Sp := fun vs H Q _ => ∃ (a dl : Addr) (n : Int) (kvs : List (Key × V)) (lib : LibT) (ok : Addr → Prop), vs = [.ref a, .ref dl] ∧ Src H a n ∧ n < 2 ^ 30 ∧ H dl = some (.dK kvs) ∧ LibTAt ok H 10 kvs lib ∧ lib.length ≤ 4 ∧ (lib.map (·.1)).Nodup ∧ (∀ m ∈ lib, isW m.1 = true ∧ szT m.2 ≤ 700000) ∧ ¬ ok a ∧
  ∀ H' p kvs' lib' n', Fr (· ≠ a) H H' → Src H' a n' → n ≤ n' → n' ≤ n + 30000000 → H p = none → H' p = some (.dK kvs') → LibTAt (fun x => newO ok H x ∧ x ≠ p) H' 10 kvs' lib' → lib'.Perm lib → Q (.ref p) H'
theorem ok_LHandedT {f : Addr} {fd : FuncData} {k : Nat} (F : Fun K "_law_handed" "_law_handed" sLHanded f fd) (B : Bl mg) (hk : 12 ≤ k) (gLDraw : Own P w K mg base 1 "_law_draw" ["_law_source_here", "_law_many"] spLDraw)
    (gLGiven : Own P w K mg base 12 "_law_given" ["_law_source_here", "_law_thing"] (spLGivenT 10)) : FnOk P w K mg base CX0 (k + 1) f fd ["_law_source_here", "_law_library_here"] spLHandedT := by
  refine F.ok scLHanded (fun vs H Q E h => ?_) (fun cdv A outer s H vs Q E hr h => ?_)
  · obtain ⟨a, dl, n, kvs, lib, ok, rfl, _⟩ := h
    rfl
  obtain ⟨a, dl, n, kvs, lib, ok, rfl, hs, hn, hdl, hlib, few, hnd, hmod, hok, q⟩ := h
  refine ⟨_, (pss_cons (ps_par (i := 2) (j := 3) (by rfl) scLHanded.nd rfl rfl (by decide) rfl rfl (pa_cons (pe_callB (call_sortedD rfl) (by rfl) B.sorted (by decide +kernel) (pa_cons (pv 1) pa_nil)) (pa_cons pe_dnewK pa_nil)) (by rfl))
      (pss_cons (ps_while PassesOwn.never (pt_cmpR (op_neD hr.units) (pv 2) (pe_lst pa_nil) (nomark _)) (pss_cons (ps_set (i := 4) scLHanded.nd rfl (by first | exact Or.inl rfl | exact Or.inr rfl) (pe_bm PySem.F.plainAttrs_list PySem.F.slot_list_pop PySem.F.type_list_pop mt_popAt (pv 2) (pa_cons (pe_own gLDraw (hr.mono (by omega)) (by rfl) (pa_cons (pv 0) (pa_cons (pe_callB call_len_seq (by rfl) B.len (by decide +kernel) (pa_cons (pv 2) pa_nil)) pa_nil))) pa_nil)))
      (pss_one (ps_dput (hu_of hr) (pv 3) (pv 4) (pe_own gLGiven (hr.mono (by omega)) (by rfl) (pa_cons (pv 0) (pa_cons (pe_dget (hu_of hr) (pv 1) (pv 4) (fun _ _ => rfl)) pa_nil))) rfl))))
      (pss_one (ps_ret (pv 3))))), ?_⟩
  have hkeys := libT_keys hlib
  refine ⟨_, rfl, dl, kvs, lib.map (·.1), rfl, .inl hdl, hkeys, by rw [List.length_map]; omega, fun ys l0 hperm hsort nl0 => ?_⟩
  refine fun fd0 nfd => ⟨_, _, rfl, ?_⟩
  have keysW : ∀ z ∈ lib.map (·.1), isW z = true := fun z hz => by
    obtain ⟨m, hm, e⟩ := List.mem_map.mp hz
    rw [← e]; exact (hmod m hm).1
  have l0f : fd0 ≠ l0 := fun e => by rw [e, upd_same] at nfd; cases nfd
  have nfdH : H fd0 = none := by rw [upd_ne l0f] at nfd; exact nfd
  have l0a : l0 ≠ a := hs.nn nl0
  have f0a : fd0 ≠ a := hs.nn nfdH
  -- what is left, by modules
  obtain ⟨rest0, er0, pr0⟩ := permG hperm lib rfl
  have okf : ∀ x, ok x → x ≠ a := fun x kx z => hok (by rw [← z]; exact kx)
  have dla : dl ≠ a := by
    obtain ⟨d, s, e, _⟩ := hs
    exact ne_of hdl e (by intro z; cases z)
  refine ⟨fun m σ H' => ∃ v4 rest lib' kvs' n', σ = [some (.ref a), some (.ref dl), some (.ref l0), some (.ref fd0), v4] ∧ rest.length = m ∧ (lib' ++ rest).Perm lib ∧ Fr (· ≠ a) H H' ∧ Src H' a n' ∧ n ≤ n' ∧ n' ≤ n + lib'.length * 7200000 ∧
    H' l0 = some (.lst ((rest.map (·.1)).map V.str)) ∧ H' fd0 = some (.dK kvs') ∧ LibTAt (fun x => newO ok H x ∧ x ≠ fd0 ∧ x ≠ l0) H' 10 kvs' lib', ⟨rest0.length, none, rest0, [], [], n, rfl, rfl, pr0, ?_, ?_, by omega, by simp, ?_, upd_same, .nil⟩, ?_⟩
  · exact (Fr.new nl0).trans (Fr.new nfd)
  · exact (hs.new nl0).new nfd
  · rw [upd_ne l0f.symm, upd_same, er0]
  · rintro m σ H1 ⟨v4, rest, lib', kvs', n1, rfl, hm, hp, fr1, sr1, l1, l2, hl1, hf1, hlib1⟩
    have lenp : lib'.length + rest.length ≤ 4 := by
      have := hp.length_eq
      rw [List.length_append] at this
      omega
    have restW : ∀ z ∈ rest.map (·.1), isW z = true := fun z hz => by
      obtain ⟨m, hm, e⟩ := List.mem_map.mp hz
      rw [← e]; exact (hmod m (hp.mem_iff.mp (List.mem_append_right _ hm))).1
    refine ⟨_, rfl, Nat.zero_le _, fun e0 ne0 => ?_⟩
    have fe : Fr (fun _ => True) H1 (upd H1 e0 (.lst [])) := Fr.new ne0
    refine ⟨.list ((rest.map (·.1)).map PyData.str), .list [], .lst (SqL.of (fe _ _ trivial hl1)) (dpStrs _), .lst (SqL.of upd_same) .nil, shaped_strs restW, by decide +kernel, _, rfl, ?_⟩
    rw [eqv_nil]
    generalize hG : upd H1 e0 _ = G
    have fe' : Fr (fun _ => True) H1 G := by rw [← hG]; exact fe
    clear fe
    have frG : Fr (· ≠ a) H G := fr1.trans (fe'.mono fun _ _ => trivial)
    have srG : Src G a n1 := sr1.fr fe' trivial
    have hlG := fe' _ _ trivial hl1
    have hfG := fe' _ _ trivial hf1
    have hlibG : LibTAt (fun x => newO ok H x ∧ x ≠ fd0 ∧ x ≠ l0) G 10 kvs' lib' := hlib1.to (KeepT.fr (fe'.mono fun _ _ => trivial) fun _ k => k)
    cases rest with
    | nil =>
      refine iteF ⟨_, rfl, q _ fd0 kvs' lib' n1 frG srG l1 (by omega) nfdH hfG (hlibG.to (KeepT.mono fun x k _ => ⟨k.1, k.2.1⟩)) ?_⟩
      rw [List.append_nil] at hp
      exact hp
    | cons m0 rest' =>
      generalize hr0 : m0 :: rest' = rest at *
      have rpos : 0 < rest.length := by rw [← hr0]; simp
      have hemp : (rest.map (·.1)).isEmpty = false := by rw [← hr0]; rfl
      rw [hemp]
      refine iteT ⟨fun σ' H' => ∃ m', m' < m ∧ ∃ v4 rest lib' kvs' n', σ' = [some (.ref a), some (.ref dl), some (.ref l0), some (.ref fd0), v4] ∧ rest.length = m' ∧ (lib' ++ rest).Perm lib ∧ Fr (· ≠ a) H H' ∧ Src H' a n' ∧ n ≤ n' ∧ n' ≤ n + lib'.length * 7200000 ∧
        H' l0 = some (.lst ((rest.map (·.1)).map V.str)) ∧ H' fd0 = some (.dK kvs') ∧ LibTAt (fun x => newO ok H x ∧ x ≠ fd0 ∧ x ≠ l0) H' 10 kvs' lib', fun σ' H' h => h, ?_⟩
      -- name = left.pop(draw(source, len(left)))
      have ll : ((rest.map (·.1)).map V.str).length = rest.length := by rw [List.length_map, List.length_map]
      refine ⟨_, rfl, .inl ⟨rfl, _, SqL.of hlG⟩, _, rfl, _, rfl, l0, _, rfl, .inl (SqL.of hlG), a, _, n1, rfl, srG, by omega, by rw [ll]; omega, by rw [ll]; omega, fun H2 j fr2 sr2 j0 j1 => ?_⟩
      rw [ll] at j1
      have hl2 := fr2 _ _ l0a hlG
      have jn : j.toNat < rest.length := by omega
      obtain ⟨⟨z, t⟩, hz⟩ : ∃ m, rest[j.toNat]? = some m := ⟨_, List.getElem?_eq_getElem jn⟩
      have hz1 : ((rest.map (·.1)).map V.str)[j.toNat]? = some (.str z) := by rw [List.getElem?_map, List.getElem?_map, hz]; rfl
      refine ⟨l0, _, j, j.toNat, .str z, rfl, rfl, hl2, by omega, by omega, seqIx j0 (by rw [ll]; exact j1), hz1, ?_⟩
      -- found[name] = given(source, library[name])
      have memz : (z, t) ∈ lib := hp.mem_iff.mp (List.mem_append_right _ (List.mem_of_getElem? hz))
      have fr3 : Fr (· ≠ a) H (upd H2 l0 (.lst (((rest.map (·.1)).map V.str).eraseIdx j.toNat))) := (frG.trans fr2).upN nl0
      have sr3 : Src (upd H2 l0 (.lst (((rest.map (·.1)).map V.str).eraseIdx j.toNat))) a (n1 + 1) := sr2.ne l0a.symm
      have hf3 : (upd H2 l0 (.lst (((rest.map (·.1)).map V.str).eraseIdx j.toNat))) fd0 = some (.dK kvs') := by rw [upd_ne l0f]; exact fr2 _ _ f0a hfG
      have hl3 : (upd H2 l0 (.lst (((rest.map (·.1)).map V.str).eraseIdx j.toNat))) l0 = some (.lst (((rest.eraseIdx j.toNat).map (·.1)).map V.str)) := by
        rw [upd_same, erase_map, erase_map]
      have nea : ∀ x, newO ok H x → x ≠ a := fun x k => k.elim (fun k => hs.nn k) fun k => okf x k.1
      have hlib3 : LibTAt (fun x => newO ok H x ∧ x ≠ fd0 ∧ x ≠ l0) (upd H2 l0 (.lst (((rest.map (·.1)).map V.str).eraseIdx j.toNat))) 10 kvs' lib' := hlibG.to fun x o k _ e => by
        refine ⟨k, ?_⟩
        rw [upd_ne k.2.2]
        exact fr2 _ _ (nea x k.1) e
      generalize hG3 : upd H2 l0 _ = H3 at *
      have hdl3 : H3 dl = some (.dK kvs) := fr3 _ _ dla hdl
      have hlibN : LibTAt (fun x => ok x ∧ H x ≠ none) H 10 kvs lib := hlib.to (KeepT.mono fun x k e => ⟨k, e⟩)
      obtain ⟨v, hv, hrv⟩ := libT_val (hlibN.to (KeepT.fr (ok' := fun x => ok x ∧ H x ≠ none) (fr3.mono fun x k => okf x k.1) fun _ k => k)) hnd memz
      have hsz := (hmod _ memz).2
      dsimp only at hsz
      refine ⟨_, rfl, _, rfl, _, rfl, dl, v, rfl, by rw [← hv]; exact DGet.k (k := Sum.inr z) hdl3, a, n1 + 1, v, t, fun x => ok x ∧ H x ≠ none, rfl, sr3, by omega, hrv, (fun k => hok k.1), fun H4 v' n4 fr4 sr4 l3 l4 hv' => ?_⟩
      have hf4 : H4 fd0 = some (.dK kvs') := fr4 _ _ f0a hf3
      have lk : kvs'.length ≤ 4 := by rw [show kvs'.length = lib'.length from paired_len hlib3]; omega
      refine ⟨_, rfl, _, rfl, fd0, _, rfl, DPut.k (k := Sum.inr z) hf4 (small (by omega)), ?_⟩
      have lr : (rest.eraseIdx j.toNat).length = rest.length - 1 := List.length_eraseIdx_of_lt jn
      have nz : z ∉ lib'.map (·.1) := fun h => by
        have nd := (hp.map (·.1)).nodup_iff.mpr hnd
        rw [List.map_append, List.nodup_append] at nd
        exact nd.2.2 z h z (List.mem_map.mpr ⟨_, List.mem_of_getElem? hz, rfl⟩) rfl
      have kp1 : KeepT (fun x => newO ok H x ∧ x ≠ fd0 ∧ x ≠ l0) (fun x => newO ok H x ∧ x ≠ fd0 ∧ x ≠ l0) H3 (upd H4 fd0 (.dK (putK kvs' (Sum.inr z) v'))) := fun x o k _ e => by
        refine ⟨k, ?_⟩
        rw [upd_ne k.2.1]
        exact fr4 _ _ (nea x k.1) e
      have kp2 : KeepT (newO (fun x => ok x ∧ H x ≠ none) H3) (fun x => newO ok H x ∧ x ≠ fd0 ∧ x ≠ l0) H4 (upd H4 fd0 (.dK (putK kvs' (Sum.inr z) v'))) := fun x o k _ e => by
        rcases k with k | ⟨k, _⟩
        · have x1 : x ≠ fd0 := fun q => by rw [q, hf3] at k; cases k
          have x2 : x ≠ l0 := fun q => by rw [q, hl3] at k; cases k
          obtain ⟨o, eo⟩ := sr3.is
          exact ⟨⟨.inl (fr3.freeD eo k), x1, x2⟩, by rw [upd_ne x1]; exact e⟩
        · have x1 : x ≠ fd0 := fun q => k.2 (by rw [q]; exact nfdH)
          have x2 : x ≠ l0 := fun q => k.2 (by rw [q]; exact nl0)
          exact ⟨⟨.inr k, x1, x2⟩, by rw [upd_ne x1]; exact e⟩
      refine ⟨(rest.eraseIdx j.toNat).length, by omega, _, rest.eraseIdx j.toNat, lib' ++ [(z, t)], _, n4, rfl, rfl, ?_, (fr3.trans fr4).upN nfdH, sr4.ne f0a.symm, by omega, ?_, ?_, upd_same, ?_⟩
      · have e1 : (lib' ++ [(z, t)] ++ rest.eraseIdx j.toNat).Perm (lib' ++ rest) := by
          rw [List.append_assoc]
          exact List.Perm.append_left lib' (erase_perm hz)
        exact e1.trans hp
      · rw [List.length_append]
        simp only [List.length_singleton]
        omega
      · rw [upd_ne l0f.symm]
        exact fr4 _ _ l0a hl3
      · exact putK_new (fun _ _ r => r.1) (hlib3.to kp1) nz ⟨rfl, hv'.to kp2⟩
end
end Ft
set_option Elab.async false
set_option linter.all false
set_option maxRecDepth 100000
set_option maxHeartbeats 1000000
set_option pp.maxSteps 3000
set_option pp.deepTerms.threshold 8
namespace Ft
open PySem L2
theorem seq_extN {H H' : Hp} {K : PySem.W.Frag} {a : Addr} {xs : List V} (e : LamX.ExtN H H') (h : SqL K H a xs) : SqL K H' a xs := by
  rcases h with h | h
  · rcases h with h | ⟨o, h⟩
    · exact .inl (.inl (e _ _ h (fun _ z => nomatch z)))
    · exact .inl (.inr ⟨o, e _ _ h (fun _ z => nomatch z)⟩)
  · exact .inr h
theorem paired_val {β : Type} {R : Key × V → Str × β → Prop} (hk : ∀ kv m, R kv m → kv.1 = Sum.inr m.1) {kvs : List (Key × V)} {lib : List (Str × β)} {z : Str} (h : Paired R kvs lib) (hz : z ∈ lib.map (·.1)) : ∃ v t, valV kvs (Sum.inr z) = some v ∧ (z, t) ∈ lib ∧ R (Sum.inr z, v) (z, t) := by
  induction h with
  | nil => cases hz
  | @cons kv m kvs' lib' r _ ih =>
    by_cases e : m.1 = z
    · have e1 := hk _ _ r
      obtain ⟨k1, v⟩ := kv
      obtain ⟨z1, t⟩ := m
      obtain rfl : z1 = z := e
      obtain rfl : k1 = Sum.inr z1 := e1
      refine ⟨v, t, ?_, by simp, r⟩
      unfold valV
      rw [List.find?_cons_of_pos (by exact decide_eq_true rfl)]
      rfl
    · obtain ⟨v, t, h1, h2, h3⟩ := ih (by
        rcases List.mem_cons.mp hz with h | h
        · exact absurd h.symm e
        · exact h)
      refine ⟨v, t, ?_, by simp [h2], h3⟩
      have : ¬ kv.1 = Sum.inr z := fun e2 => by
        rw [hk _ _ r] at e2
        exact e (Sum.inr.inj e2)
      unfold valV at h1 ⊢
      rw [List.find?_cons_of_neg (by rw [decide_eq_false this]; exact Bool.false_ne_true)]
      exact h1
theorem Src.apt0 {H : Hp} {a : Addr} {n : Int} {o : HO} (s : Src H a n) (h : H a = some o) (hn : ∀ xs, o ≠ .lst xs) : False := by
  obtain ⟨d, s, e', _⟩ := s
  rw [e'] at h
  exact hn _ (Option.some.inj h).symm
theorem ne_of_none' {H : Hp} {a b : Addr} {o : HO} (h : H a = some o) (n : H b = none) : b ≠ a := fun e => by rw [e, h] at n; cases n
theorem row_badM {m : Str × List Row} (h : ∀ r ∈ m.2, RowOk 3 false r) : badM (m.1, Th.sq (m.2.map (toT 3))) = none := by
  show (firstLT 4 false [] (m.2.map (toT 3))).map _ = none
  rw [Option.map_eq_none_iff]
  unfold firstLT
  rw [List.findSome?_eq_none_iff]
  rintro ⟨t, i⟩ hx
  have := (List.mem_zipIdx_iff_getElem?.mp hx)
  rw [List.getElem?_map] at this
  cases e : m.2[i]? with
  | none => rw [e] at this; cases this
  | some r =>
    rw [e] at this
    obtain rfl : toT 3 r = t := Option.some.inj this
    exact toT_ok (h r (List.mem_of_getElem? e)) _ _ _
def strT (zs : List Str) : DT := .sq true (zs.map fun z => .at (.str z))
theorem keys_strs {ok : Addr → Prop} {kk : Bool → Bool → Prop} {H : Hp} {kvs : List (Key × V)} {lib : Lib} (h : LibAt ok kk H kvs lib) : (kvs.map fun kv => kV kv.1) = (lib.map (·.1)).map V.str := by
  have e := congrArg (List.map kV) (libAt_keys h)
  rw [List.map_map, List.map_map] at e
  rw [show (kvs.map fun kv => kV kv.1) = kvs.map (kV ∘ fun x => x.1) from rfl, e]
  rfl
theorem keys_sorted {lib lib4 : Lib} {ys : List Str} (perm4 : lib4.Perm lib) (sort4 : PyProof.Rows.sortedS (lib4.map (·.1)) = true) (hperm : ys.Perm (lib.map (·.1))) (hsort : PyProof.Rows.sortedS ys = true) (nd : (lib.map (·.1)).Nodup) : lib4.map (·.1) = ys := by
  obtain ⟨lib2, e2, p2⟩ := lib_perm hperm lib rfl
  have e := libs_eq perm4 p2 sort4 (by rw [e2]; exact hsort) nd
  rw [e, e2]
theorem tabs_fr {T : List (Addr × Str)} {H H' : Hp} {a : Addr} {n : Int} (t : LamX.Tabs T H) (s : Src H a n) (f : Fr (· ≠ a) H H') : LamX.Tabs T H' := fun p hp => by
  obtain ⟨ps, h1, h2, h3⟩ := t p hp
  refine ⟨ps, f _ _ (fun e => s.apt0 (o := .tbl ps) (by rw [← e]; exact h1) fun _ z => nomatch z) h1, h2, fun pos cv hc => ?_⟩
  obtain ⟨c, e, h4⟩ := h3 pos cv hc
  exact ⟨c, e, f _ _ (fun e2 => s.apt0 (by rw [← e2]; exact h4) (by intro _ z; cases z)) h4⟩
theorem ext_fr {H0 H H' : Hp} {a : Addr} (e : LamX.ExtN H0 H) (f : Fr (· ≠ a) H H') (na : H0 a = none) : LamX.ExtN H0 H' := fun b o q n => f _ _ (fun z => by rw [z, na] at q; cases q) (e _ _ q n)
theorem perm_map_inv {α β : Type} {f : α → β} : ∀ {l : List β} {m : List α}, l.Perm (m.map f) → ∃ l' : List α, l = l'.map f ∧ l'.Perm m
  | [], m, h => ⟨[], rfl, by
    have e := List.map_eq_nil_iff.mp (List.perm_nil.mp h.symm)
    rw [e]⟩
  | x :: l, m, h => by
    have hx : x ∈ m.map f := h.mem_iff.mp (by simp)
    obtain ⟨y, hy, rfl⟩ := List.mem_map.mp hx
    obtain ⟨s, t, rfl⟩ := List.append_of_mem hy
    have h2 : (f y :: l).Perm (f y :: (s ++ t).map f) := by
      refine h.trans ?_
      rw [List.map_append, List.map_append, List.map_cons]
      exact List.perm_middle
    obtain ⟨l', e, pp⟩ := perm_map_inv (List.Perm.cons_inv h2)
    exact ⟨y :: l', by rw [List.map_cons, ← e], (pp.cons y).trans List.perm_middle.symm⟩
theorem neD_run {K : PySem.W.Frag} {ok2 ok3 : Addr → Prop} {H : Hp} {b b2 : Addr} {kvs kvs2 kvs3 : List (Key × V)} {Q : VK} (hb : H b = some (.dK kvs2)) (hb2 : H b2 = some (.dK kvs3)) (nd : (kvs.map (·.1)).Nodup) (h2 : Paired (fun (kv kv2 : Key × V) => kv.1 = kv2.1 ∧ TupR ok2 H 10 kv.2 kv2.2) kvs kvs2) (h3 : Paired (fun (kv kv2 : Key × V) => kv.1 = kv2.1 ∧ TupR ok3 H 10 kv.2 kv2.2) kvs kvs3) (q : Q (.bl false) H) : rNeDW K (.ref b2) (.ref b) H Q := by
  have l2 := paired_len h2
  have l3 := paired_len h3
  refine ⟨b2, b, kvs3, kvs2, 10, rfl, rfl, by decide, hb2, hb, by omega, fun p hp => ?_, q⟩
  obtain ⟨j, hj⟩ := List.getElem?_of_mem hp
  obtain ⟨kv, hkv, e1, r1⟩ := paired_getR h3 hj
  obtain ⟨⟨k2, v2⟩, hkv2, e2, r2⟩ := paired_get h2 hkv
  have nd2 : (kvs2.map (·.1)).Nodup := by rw [keys_two (fun _ _ r => r.1) h2]; exact nd
  refine ⟨v2, ?_, tupR_eqW r1 r2⟩
  have e3 : p.1 = k2 := by rw [← e1, e2]
  rw [e3]
  exact valV_at nd2 hkv2
theorem extN_same {H H' : Hp} (s : Same H H') : LamX.ExtN H H' := fun b o q _ => s _ _ q
theorem ext_ext {H H' H2 : Hp} (e : LamX.ExtN H H') (e2 : LamX.ExtN H' H2) : LamX.ExtN H H2 := fun b o q n => e2 _ _ (e _ _ q n) n
theorem due_fin {H : Hp} {z : V} {y : List Int} {Q : VK} (hz : isAtom z = true) (hy : y.length ≤ 12) (q : ∀ H' p, Same H H' → DtAt H' 11 (.ref p) (badVT z y) → Q (.ref p) H') :
    (y.map V.int).length ≤ sizeLine ∧ ∀ p1, H p1 = none → 3 ≤ sizeLine ∧ ∀ p2, (upd H p1 (.tup (y.map V.int))) p2 = none → Q (.ref p2) (upd (upd H p1 (.tup (y.map V.int))) p2 (.tup [.str "program", z, .ref p1])) :=
  ⟨smallE (by rw [List.length_map]; omega), fun p1 n1 => ⟨(by show 3 ≤ sizeLine; decide), fun p2 n2 => by
    have s1 := Same.new n1 (o := .tup (y.map V.int))
    have s2 := Same.new n2 (o := .tup [.str "program", z, .ref p1])
    refine q _ p2 (Same.trans s1 s2) ⟨p2, _, rfl, upd_same, by show 3 ≤ 16000000; decide, .cons ⟨rfl, rfl⟩ (.cons ⟨rfl, hz⟩ (.cons ?_ .nil))⟩
    exact path_dt (m := 9) ⟨p1, rfl, s2 _ _ upd_same⟩ (by omega)⟩⟩
/-- dict([(z, tupled(d[z])) for z in d]) -/
theorem before_in4 {K : PySem.W.Frag} {u0 u1 u2 u3 u5 u6 u7 u8 u9 u10 u11 : Option V} {H : Hp} {Q : VK} {p : Addr} {kvs : List (Key × V)} {lib : LibT} {ok : Addr → Prop} (hp : H p = some (.dK kvs)) (hl : LibTAt ok H 10 kvs lib) (okp : ∀ x, ok x → x ≠ p) (nd : (lib.map (·.1)).Nodup) (few : lib.length ≤ 8)
    (q : ∀ H' b kvs2, Same H H' → H b = none → H' b = some (.dK kvs2) → Paired (fun (kv kv2 : Key × V) => kv.1 = kv2.1 ∧ TupR (fun y => H y = none ∨ ok y) H' 10 kv.2 kv2.2) kvs kvs2 → Q (.ref b) H') :
    tCB (rDictB K) (tCons (tLockE (tLc (iKeys (tVar 4)) (gName 12) tYes (tTup (tCons (tVar 12) (tCons (tCall (spLTupledR 10) [] E0 (tCons (tDGet (tVar 4) (tVar 12)) tNil)) tNil))) [12])) tNil) [u0, u1, u2, u3, some (.ref p), u5, u6, u7, u8, u9, u10, u11, none] H Q := by
  refine ⟨p, .dK kvs, hp, trivial, fun od => ?_⟩
  have hpG : (upd H p (.frz od (.dK kvs))) p = some (.frz od (.dK kvs)) := upd_same
  have fG : Fr (· ≠ p) H (upd H p (.frz od (.dK kvs))) := Fr.put fun z => z rfl
  have nG : ∀ y, (upd H p (.frz od (.dK kvs))) y = none → H y = none := fun y e => by
    by_cases c : y = p
    · rw [c, upd_same] at e; cases e
    · rw [upd_ne c] at e; exact e
  generalize hGe : upd H p _ = G at *
  refine ⟨_, rfl, p, od, rfl, .inl ⟨kvs, hpG, fun L nL => ?_⟩⟩
  have hlG : LibTAt ok G 10 kvs lib := paired_imp hl fun _ _ r => ⟨r.1, r.2.to fun b o k _ e => ⟨k, fG _ _ (okp b k) e⟩⟩
  have lkv : kvs.length = lib.length := paired_len hl
  have hkeys : kvs.map (·.1) = (lib.map (·.1)).map Sum.inr := keys_of (fun _ _ r => r.1) hl
  have kvd : (kvs.map (·.1)).Nodup := by rw [hkeys]; exact List.Pairwise.map _ (fun _ _ h e => h (Sum.inr.inj e)) nd
  refine lc_it walk_keys (fun i H' => Same G H' ∧ ∃ (ts : List Addr) (kvs2 : List (Key × V)), H' L = some (.lst (ts.map V.ref)) ∧ Paired (fun t (kv2 : Key × V) => t ≠ L ∧ H' t = some (.tup [kV kv2.1, kv2.2])) ts kvs2 ∧ Paired (fun (kv kv2 : Key × V) => kv.1 = kv2.1 ∧ TupR (fun y => (G y = none ∨ ok y) ∧ y ≠ L) H' 10 kv.2 kv2.2) (kvs.take i) kvs2)
    ⟨Same.new nL, [], [], upd_same, .nil, .nil⟩ (fun i H' _ ⟨sm, _⟩ => sm _ _ hpG) ?_ ?_
  · rintro i x H1 H2 hi ⟨sm, ts, kvs2, hL, hts, hk2⟩ ⟨rfl, kx, vx, hkv, rfl⟩
    obtain ⟨⟨z, t⟩, hm, hkz, hth⟩ := paired_get hlG hkv
    obtain rfl : kx = Sum.inr z := hkz
    dsimp only at hth
    have dg : DGet H2 p (.str z) (some vx) := by rw [← valV_at kvd hkv]; exact .inl ⟨kvs, Sum.inr z, .inr ⟨_, sm _ _ hpG⟩, rfl, rfl⟩
    refine ⟨rfl, _, rfl, _, rfl, _, rfl, p, vx, rfl, dg, vx, t, fun y => ok y ∧ y ≠ L ∧ H2 y ≠ none, rfl, hth.to fun b o k _ e => ⟨⟨k, ne_of_none e nL, fun e2 => by rw [sm _ _ e] at e2; cases e2⟩, sm _ _ e⟩, fun H3 v' s3 hr => ⟨(by show 2 ≤ sizeLine; decide), fun t nt => ?_⟩⟩
    have hL3 := s3 _ _ hL
    have st : Same H3 (upd H3 t (.tup [kV (Sum.inr z), v'])) := Same.new nt
    have ht : (upd H3 t (.tup [kV (Sum.inr z), v'])) t = some (.tup [kV (Sum.inr z), v']) := upd_same
    have tL : t ≠ L := (ne_of_none hL3 nt).symm
    generalize upd H3 t _ = H4 at *
    have s24 := Same.trans s3 st
    have lts : ts.length ≤ 8 := by
      have e1 := paired_len hts
      have e2 := paired_len hk2
      rw [List.length_take] at e2
      omega
    refine ⟨_, s24 _ _ hL, small (by rw [List.length_map]; omega), Same.upN (Same.trans sm s24) nL, ts ++ [t], kvs2 ++ [(Sum.inr z, v')], ?_, ?_, ?_⟩
    · rw [upd_same, List.map_append]; rfl
    · exact paired_app ⟨tL, by rw [upd_ne tL]; exact ht⟩ (paired_imp hts fun p kv r => ⟨r.1, by rw [upd_ne r.1]; exact s24 _ _ r.2⟩)
    · have et : kvs.take (i + 1) = kvs.take i ++ [(Sum.inr z, vx)] := by rw [List.take_add_one, hkv]; rfl
      rw [et]
      refine paired_app ⟨rfl, hr.to fun b o k _ e => ?_⟩ (paired_imp hk2 fun kv kv2 r => ⟨r.1, r.2.to fun b o k _ e => ⟨k, by rw [upd_ne k.2]; exact s24 _ _ e⟩⟩)
      have bL : b ≠ L := by
        rcases k with k | k
        · exact (ne_of_none hL k).symm
        · exact k.2.1
      refine ⟨⟨?_, bL⟩, by rw [upd_ne bL]; exact st _ _ e⟩
      rcases k with k | k
      · exact .inl (Same.free sm k)
      · exact .inr k.1
  · rintro H1 ⟨sm, ts, kvs2, hL, hts, hk2⟩
    rw [List.take_length] at hk2
    refine ⟨sm _ _ hpG, ?_⟩
    have Lp : L ≠ p := fun e => by rw [e, hpG] at nL; cases nL
    have k1 : ∀ y o, y ≠ p → H1 y = some o → (upd H1 p (.dK kvs)) y = some o := fun y o c e => by rw [upd_ne c]; exact e
    have s1 : Same H (upd H1 p (.dK kvs)) := fun b o e => by
      by_cases c : b = p
      · rw [c, upd_same, ← hp, ← c, e]
      · rw [upd_ne c]; exact sm _ _ (fG _ _ c e)
    have hts1 : Paired (fun t (kv2 : Key × V) => (upd H1 p (.dK kvs)) t = some (.tup [kV kv2.1, kv2.2])) ts kvs2 := paired_imp hts fun t kv2 r => k1 _ _ (fun e => by rw [e, sm _ _ hpG] at r; cases r.2) r.2
    have hk3 : Paired (fun (kv kv2 : Key × V) => kv.1 = kv2.1 ∧ TupR (fun y => H y = none ∨ ok y) (upd H1 p (.dK kvs)) 10 kv.2 kv2.2) kvs kvs2 := paired_imp hk2 fun kv kv2 r => ⟨r.1, r.2.to fun b o k _ e => by
      rcases k.1 with g | g
      · exact ⟨.inl (nG _ g), k1 _ _ (fun e2 => by rw [e2, hpG] at g; cases g) e⟩
      · exact ⟨.inr g, k1 _ _ (okp b g) e⟩⟩
    have hL1 := k1 _ _ Lp hL
    generalize upd H1 p _ = H2 at *
    refine ⟨L, ts, kvs2, rfl, SqL.of hL1, paired_imp hts1 fun _ _ r => SqT.of r, fun b nb => ?_⟩
    have ek : kvs2.map (·.1) = kvs.map (·.1) := keys_two (fun _ _ r => r.1) hk3
    rw [mergeK_ndB (by rw [List.nil_append, ek]; exact kvd), List.nil_append]
    have sb : Same H2 (upd H2 b (.dK kvs2)) := Same.new nb
    exact q _ b kvs2 (Same.trans s1 sb) (Same.free s1 nb) upd_same (paired_imp hk3 fun _ _ r => ⟨r.1, r.2.to (KeepT.same sb)⟩)
theorem src_ext {H H' : Hp} {a : Addr} {n : Int} (s : Src H a n) (e : LamX.ExtN H H') : Src H' a n := by
  obtain ⟨dd, ss, ee, hh⟩ := s
  exact ⟨dd, ss, e _ _ ee (fun _ z => nomatch z), hh⟩
theorem tabs_updO {T : List (Addr × Str)} {H : Hp} {x : Addr} {o0 o : HO} (t : LamX.Tabs T H) (hx : H x = some o0) (h0 : (∃ xs, o0 = .lst xs) ∨ ∃ kvs, o0 = .dK kvs) : LamX.Tabs T (upd H x o) := fun p hp => by
  obtain ⟨ps, h1, h2, h3⟩ := t p hp
  refine ⟨ps, by rw [upd_ne (ne_of h1 hx (by rcases h0 with ⟨_, rfl⟩ | ⟨_, rfl⟩ <;> (intro z; cases z)))]; exact h1, h2, fun pos cv hc => ?_⟩
  obtain ⟨c, e, h4⟩ := h3 pos cv hc
  exact ⟨c, e, by rw [upd_ne (ne_of h4 hx (by rcases h0 with ⟨_, rfl⟩ | ⟨_, rfl⟩ <;> (intro z; cases z)))]; exact h4⟩
theorem ext_updO {G H : Hp} {x : Addr} {o : HO} (e : LamX.ExtN G H) (hx : ∀ o, G x = some o → (∀ ps, o ≠ .tbl ps) → False) : LamX.ExtN G (upd H x o) := fun b u q n => by
  rw [upd_ne (fun z => by rw [z] at q; exact hx _ q n)]
  exact e _ _ q n
/-- d != {} -/
def rNeD0 : R2 := fun x y H Q => ∃ a b ks, x = .ref a ∧ y = .ref b ∧ H a = some (.dK ks) ∧ H b = some (.dK []) ∧ Q (.bl (!(ks.length == 0))) H
theorem op_neD0 {X : Cx} (hu : X.A.units < cLine) : OpR X (compareOp .NotEq) rNeD0 := by
  intro pins s σ H x y v u Q I rx ry h
  obtain ⟨a, b, ks, rfl, rfl, ea, eb, q⟩ := h
  obtain rfl : v = Value.ref a := rx
  obtain rfl : u = Value.ref b := ry
  obtain ⟨_, ya, va, ra, da⟩ := (show ObjOk X.prog X.w H s.heap a (.dK ks) from I.hok a _ ea)
  obtain ⟨_, yb, vb, rb, db⟩ := (show ObjOk X.prog X.w H s.heap b (.dK []) from I.hok b _ eb)
  have e0 : vb = [] := by cases rb; rfl
  subst e0
  refine PySem.W.keq_ne (knd := mixKind X.prog X.w) (r := true) ya yb da db hu (fun e => ?_) (fin_bl I q (by rw [Bool.and_true, ra.length]; rfl))
  cases va with
  | nil => exact .nil
  | cons _ _ => cases e
theorem strs_uniq {a b : List Str} (p : a.Perm b) (sa : PyProof.Rows.sortedS a = true) (sb : PyProof.Rows.sortedS b = true) (nd : a.Nodup) : a = b := by
  have h1 := sortedS_strict sa nd
  have h2 := sortedS_strict sb (p.nodup_iff.mp nd)
  refine sorted_eq (lt := fun a b : Str => a.cps.toList < b.cps.toList) p (h1.imp fun {x y} h => ?_) h2
  exact fun q => List.lt_irrefl _ (List.lt_trans h q)
theorem str_dtM {H : Hp} {l : Addr} {zs : List Str} {m : Nat} (h : H l = some (.lst (zs.map V.str))) (hl : zs.length ≤ 1000000) : DtAt H (m + 1) (.ref l) (strT zs) := by
  refine ⟨l, _, rfl, h, by rw [List.length_map]; omega, ?_⟩
  have go : ∀ l : List Str, Paired (DtAt H m) (l.map V.str) (l.map fun n => DT.at (.str n)) := by
    intro l
    induction l with
    | nil => exact .nil
    | cons n l ih => exact .cons (dtAt_at rfl) ih
  exact go _
end Ft
set_option Elab.async false
set_option linter.all false
set_option maxRecDepth 100000
set_option maxHeartbeats 1000000
set_option pp.maxSteps 3000
set_option pp.deepTerms.threshold 8
namespace Ft
open PySem L2
abbrev Fs := List (Str × List Int)
def okH (a dl fl : Addr) (x : Addr) : Prop := x ≠ a ∧ x ≠ dl ∧ x ≠ fl
def okT (a dl fl : Addr) (ks : List Str) (L : Str → Addr) (x : Addr) : Prop := okH a dl fl x ∧ ∀ z ∈ ks, x ≠ L z
structure MI (okr : Addr → Prop) (L : Str → Addr) (H : Hp) (fs : Fs) (kv : Key × V) (m : Str × Th) : Prop where
  key : kv.1 = Sum.inr m.1
  sz : szT m.2 ≤ 700000
  val : (kv.2 = .ref (L m.1) ∧ ∃ xs ts, H (L m.1) = some (.lst xs) ∧ m.2 = .sq ts ∧ Paired (ThAt okr H 9) xs ts ∧ ts.length ≤ 25) ∨ (ThAt okr H 10 kv.2 m.2 ∧ isSq m.2 = false)
  st : (m.1 ∉ fs.map (·.1) ∧ ∃ rs : List Row, m.2 = .sq (rs.map (toT 3)) ∧ (∀ r ∈ rs, RowOk 3 false r) ∧ rs.length ≤ 24 ∧ szT m.2 ≤ 600000) ∨ ∃ y, (m.1, y) ∈ fs ∧ badM m = some (.str m.1, y)
theorem MI.to {okr okr' : Addr → Prop} {L : Str → Addr} {H H' : Hp} {fs fs' : Fs} {kv : Key × V} {m : Str × Th} (h : MI okr L H fs kv m) (k : KeepT okr okr' H H') (kl : ∀ xs, H (L m.1) = some (.lst xs) → H' (L m.1) = some (.lst xs)) (hf : (m.1 ∈ fs'.map (·.1) → m.1 ∈ fs.map (·.1)) ∧ ∀ x ∈ fs, x ∈ fs') : MI okr' L H' fs' kv m := by
  refine ⟨h.key, h.sz, ?_, ?_⟩
  · rcases h.val with ⟨e, xs, ts, h1, h2, h3, h4⟩ | ⟨h1, h2⟩
    · exact .inl ⟨e, xs, ts, kl _ h1, h2, paired_imp h3 fun _ _ q => q.to k, h4⟩
    · exact .inr ⟨h1.to k, h2⟩
  · rcases h.st with ⟨h1, h2⟩ | ⟨y, h1, h2⟩
    · exact .inl ⟨fun z => h1 (hf.1 z), h2⟩
    · exact .inr ⟨y, hf.2 _ h1, h2⟩
theorem MI.th {okr : Addr → Prop} {L : Str → Addr} {H : Hp} {fs : Fs} {kv : Key × V} {m : Str × Th} (h : MI okr L H fs kv m) {ok : Addr → Prop} (hL : ok (L m.1)) (ho : ∀ x, okr x → ok x) : ThAt ok H 10 kv.2 m.2 := by
  rcases h.val with ⟨e, xs, ts, h1, h2, h3, h4⟩ | ⟨h1, h2⟩
  · rw [e, h2]
    exact ⟨L m.1, true, xs, rfl, hL, h1, by omega, paired_imp h3 fun _ _ q => q.to (KeepT.mono fun x k _ => ho x k)⟩
  · exact h1.to (KeepT.mono fun x k _ => ho x k)
theorem paired_setM {β : Type} {R0 R : Key × V → Str × β → Prop} (hk : ∀ kv m, R0 kv m → kv.1 = Sum.inr m.1) {kvs : List (Key × V)} {lib : List (Str × β)} {z : Str} {v : V} {t : β} (h : Paired R0 kvs lib) (hz : z ∈ lib.map (·.1)) (hr : R (Sum.inr z, v) (z, t)) (imp : ∀ kv m, R0 kv m → m ∈ lib → m.1 ≠ z → R kv m) : Paired R (putK kvs (Sum.inr z) v) (putG lib z t) := by
  have go : ∀ {kvs : List (Key × V)} {lib : List (Str × β)}, Paired R0 kvs lib → (∀ kv m, R0 kv m → m ∈ lib → m.1 ≠ z → R kv m) → Paired R (kvs.map (fun kv => if kv.1 = Sum.inr z then (kv.1, v) else kv)) (lib.map (fun m => if m.1 = z then (m.1, t) else m)) := by
    intro kvs lib h
    induction h with
    | nil => intro _; exact .nil
    | @cons kv m _ _ r _ ih =>
      intro imp
      refine .cons ?_ (ih fun kv m r hm hn => imp kv m r (List.mem_cons_of_mem _ hm) hn)
      dsimp only
      by_cases e : m.1 = z
      · have e2 : kv.1 = Sum.inr z := by rw [hk _ _ r, e]
        rw [if_pos e, if_pos e2, e2, e]
        exact hr
      · have e2 : ¬ kv.1 = Sum.inr z := by rw [hk _ _ r]; exact fun q => e (Sum.inr.inj q)
        rw [if_neg e, if_neg e2]
        exact imp kv m r List.mem_cons_self e
  have ea : (kvs.any fun kv => decide (kv.1 = Sum.inr z)) = (lib.any fun m => decide (m.1 = z)) := by
    clear hr imp hz go
    induction h with
    | nil => rfl
    | @cons kv m _ _ r _ ih =>
      rw [List.any_cons, List.any_cons, ih, hk _ _ r]
      congr 1
      exact decide_eq_decide.mpr ⟨fun e => Sum.inr.inj e, fun e => by rw [e]⟩
  have hany : (lib.any fun m => decide (m.1 = z)) = true := by
    obtain ⟨m, hm, e⟩ := List.mem_map.mp hz
    exact List.any_eq_true.mpr ⟨m, hm, decide_eq_true e⟩
  unfold putK putG
  rw [ea, if_pos hany, if_pos hany]
  exact go h imp
theorem putK_same {kvs : List (Key × V)} {k : Key} {v : V} (hk : k ∈ kvs.map (·.1)) (h : ∀ kv ∈ kvs, kv.1 = k → kv.2 = v) : putK kvs k v = kvs := by
  unfold putK
  have hany : (kvs.any fun kv => decide (kv.1 = k)) = true := by
    obtain ⟨m, hm, e⟩ := List.mem_map.mp hk
    exact List.any_eq_true.mpr ⟨m, hm, decide_eq_true e⟩
  rw [if_pos hany]
  refine (List.map_congr_left fun kv hkv => ?_).trans (List.map_id kvs)
  show (if kv.1 = k then (kv.1, v) else kv) = kv
  split
  · rename_i e
    rw [← h kv hkv e]
  · rfl
theorem find_least {fs : Fs} {z0 : Str} {t0 : Th} {y0 : List Int} : ∀ {libS : LibT}, (libS.map (·.1)).Pairwise (fun a b => a.cps.toList < b.cps.toList) → (∀ m ∈ libS, badM m = none ∨ ∃ y, (m.1, y) ∈ fs ∧ badM m = some (.str m.1, y)) → (z0, t0) ∈ libS → badM (z0, t0) = some (.str z0, y0) → (∀ z ∈ fs.map (·.1), z = z0 ∨ z0.cps.toList < z.cps.toList) → libS.findSome? badM = some (.str z0, y0)
  | [], _, _, h, _, _ => by cases h
  | m :: l, hs, hb, hm, h0, hl => by
    rw [List.map_cons, List.pairwise_cons] at hs
    rw [List.findSome?_cons]
    rcases List.mem_cons.mp hm with rfl | hm
    · rw [h0]
    rcases hb m (by simp) with e | ⟨y, hy, e⟩
    · rw [e]
      exact find_least hs.2 (fun x hx => hb x (by simp [hx])) hm h0 hl
    · have lt : m.1.cps.toList < z0.cps.toList := hs.1 _ (List.mem_map.mpr ⟨_, hm, rfl⟩)
      rcases hl m.1 (List.mem_map.mpr ⟨_, hy, rfl⟩) with e1 | e1
      · rw [e1] at lt
        exact absurd lt (List.lt_irrefl _)
      · exact absurd (List.lt_trans lt e1) (List.lt_irrefl _)
theorem least_wrong {lib : LibT} {fs : Fs} {ys : List Str} {z0 : Str} {y0 : List Int} (nd : (lib.map (·.1)).Nodup) (hw : ∀ m ∈ lib, isW m.1 = true) (hb : ∀ m ∈ lib, badM m = none ∨ ∃ y, (m.1, y) ∈ fs ∧ badM m = some (.str m.1, y)) (hfs : ∀ z ∈ fs.map (·.1), z ∈ lib.map (·.1)) (hnf : (fs.map (·.1)).Nodup) (hin : ∀ m ∈ lib, m.1 ∈ fs.map (·.1) → badM m ≠ none) (hp : (z0 :: ys).Perm (fs.map (·.1))) (hs : PyProof.Rows.sortedS (z0 :: ys) = true) (h0 : (z0, y0) ∈ fs) : WrongAs lib (.str z0) y0 := by
  obtain ⟨libS, pS, sS⟩ := sortG lib
  refine ⟨nd, fun m h => by have := isW_len (hw m h); omega, libS, pS, sS, ?_⟩
  unfold wrongL
  rw [if_pos (List.all_eq_true.mpr fun m h => hw m (pS.mem_iff.mp h))]
  have ndS : (libS.map (·.1)).Nodup := (pS.map _).nodup_iff.mpr nd
  have srt := sortedS_strict sS ndS
  have srt0 := sortedS_strict hs (hp.nodup_iff.mpr hnf)
  rw [List.pairwise_cons] at srt0
  have hz0 : z0 ∈ fs.map (·.1) := List.mem_map.mpr ⟨_, h0, rfl⟩
  obtain ⟨⟨z1, t0⟩, hm, e⟩ := List.mem_map.mp (hfs z0 hz0)
  obtain rfl : z1 = z0 := e
  have hb0 : badM (z1, t0) = some (.str z1, y0) := by
    rcases hb _ hm with e | ⟨y, hy, e⟩
    · exact absurd e (hin _ hm hz0)
    · have : y = y0 := by
        have go : ∀ {fs : Fs}, (fs.map (·.1)).Nodup → (z1, y) ∈ fs → (z1, y0) ∈ fs → y = y0 := by
          intro fs
          induction fs with
          | nil => intro _ h; cases h
          | cons x fs ih =>
            intro hn h1 h2
            rw [List.map_cons, List.nodup_cons] at hn
            rcases List.mem_cons.mp h1 with e1 | h1 <;> rcases List.mem_cons.mp h2 with e2 | h2
            · rw [← e1] at e2
              exact (congrArg Prod.snd e2).symm
            · rw [← e1] at hn
              exact absurd (List.mem_map.mpr ⟨_, h2, rfl⟩) hn.1
            · rw [← e2] at hn
              exact absurd (List.mem_map.mpr ⟨_, h1, rfl⟩) hn.1
            · exact ih hn.2 h1 h2
        exact go hnf hy h0
      rw [e, this]
  refine find_least srt (fun m h => hb m (pS.mem_iff.mp h)) (pS.mem_iff.mpr hm) hb0 fun z hz => ?_
  rcases List.mem_cons.mp (hp.mem_iff.mpr hz) with e | hz
  · exact .inl e
  · exact .inr (srt0.1 z hz)
def noT : Th := .sq [.at (.str "say"), .at (.str "no")]
theorem noT_row : rowT false noT = false := by decide +kernel
theorem first_ins {rs : List Row} (hr : ∀ r ∈ rs, RowOk 3 false r) {j : Nat} (hj : j ≤ rs.length) : firstLT 4 false [] ((rs.map (toT 3)).take j ++ [noT] ++ (rs.map (toT 3)).drop j) = some [(j : Int)] := by
  unfold firstLT
  have e : ((rs.map (toT 3)).take j ++ [noT] ++ (rs.map (toT 3)).drop j).zipIdx = ((rs.map (toT 3)).take j).zipIdx ++ (noT, j) :: ((rs.map (toT 3)).drop j).zipIdx (j + 1) := by
    have l : ((rs.map (toT 3)).take j).length = j := by rw [List.length_take, List.length_map]; omega
    rw [List.append_assoc, List.zipIdx_append, l, Nat.zero_add]
    rfl
  rw [e, List.findSome?_append]
  have h0 : ((rs.map (toT 3)).take j).zipIdx.findSome? (firstT 4 false []) = none := by
    rw [List.findSome?_eq_none_iff]
    rintro ⟨t, i⟩ hx
    have := List.mem_zipIdx_iff_getElem?.mp hx
    have ht : t ∈ rs.map (toT 3) := List.mem_of_mem_take (List.mem_of_getElem? this)
    obtain ⟨r, hrm, rfl⟩ := List.mem_map.mp ht
    exact toT_ok (hr r hrm) _ _ _
  rw [h0, Option.none_or, List.findSome?_cons]
  have e1 : firstT 4 false [] (noT, j) = some [(j : Int)] := by
    rw [firstT_eq, if_neg (by rw [noT_row]; exact Bool.false_ne_true)]
    rfl
  rw [e1]
end Ft
set_option Elab.async false
set_option linter.all false
set_option maxRecDepth 100000
set_option maxHeartbeats 1000000
set_option pp.maxSteps 3000
set_option pp.deepTerms.threshold 8
namespace Ft
open PySem L2
theorem paired_takeM {α β : Type} {R : α → β → Prop} : ∀ {xs : List α} {ys : List β} {m : Nat}, Paired R xs ys → Paired R (xs.take m) (ys.take m)
  | _, _, _, .nil => by rw [List.take_nil, List.take_nil]; exact .nil
  | _, _, 0, .cons _ _ => .nil
  | _, _, m + 1, .cons r t => .cons r (paired_takeM (m := m) t)
theorem paired_dropM {α β : Type} {R : α → β → Prop} : ∀ {xs : List α} {ys : List β} {m : Nat}, Paired R xs ys → Paired R (xs.drop m) (ys.drop m)
  | _, _, _, .nil => by rw [List.drop_nil, List.drop_nil]; exact .nil
  | _, _, 0, .cons r t => .cons r t
  | _, _, m + 1, .cons _ t => paired_dropM (m := m) t
structure Gh (a dl fl : Addr) (ks : List Str) (L : Str → Addr) : Prop where
  adl : a ≠ dl
  afl : a ≠ fl
  dfl : dl ≠ fl
  lo : ∀ z ∈ ks, okH a dl fl (L z)
  inj : ∀ z ∈ ks, ∀ z' ∈ ks, L z = L z' → z = z'
  nd : ks.Nodup
  wd : ∀ z ∈ ks, isW z = true
  few : ks.length ≤ 4
def FPair (H : Hp) (kv : Key × V) (m : Str × List Int) : Prop := kv.1 = Sum.inr m.1 ∧ PathAt H kv.2 m.2
/-- what stays while modules are spoilt -/
structure In4 (a dl fl : Addr) (ks : List Str) (L : Str → Addr) (N : Int) (fs : Fs) (done : List Str) (H : Hp) : Prop where
  src : ∃ n, Src H a n ∧ n ≤ N
  d : ∃ (kvs : List (Key × V)) (lib : LibT), H dl = some (.dK kvs) ∧ Paired (MI (okT a dl fl ks L) L H fs) kvs lib ∧ lib.map (·.1) = ks
  f : ∃ fkvs : List (Key × V), H fl = some (.dK fkvs) ∧ Paired (FPair H) fkvs fs
  fn : (fs.map (·.1)).Nodup
  fd : ∀ z ∈ fs.map (·.1), z ∈ done ∧ z ∈ ks
  fy : ∀ m ∈ fs, m.2.length ≤ 1
  al : ∀ z ∈ ks, H (L z) ≠ none
theorem In4.fr {a dl fl : Addr} {ks : List Str} {L : Str → Addr} {N N' n : Int} {fs : Fs} {done done' : List Str} {H H' : Hp} (g : Gh a dl fl ks L) (h : In4 a dl fl ks L N fs done H) (f : Fr (· ≠ a) H H') (s : Src H' a n) (hn : n ≤ N') (hd : ∀ z ∈ done, z ∈ done') : In4 a dl fl ks L N' fs done' H' := by
  obtain ⟨⟨n0, s0, _⟩, ⟨kvs, lib, h1, h2, h3⟩, ⟨fkvs, f1, f2⟩, h4, h5, h6, h7⟩ := h
  refine ⟨⟨n, s, hn⟩, ⟨kvs, lib, f _ _ g.adl.symm h1, paired_impM h2 fun kv m hm r => ?_, h3⟩, ⟨fkvs, f _ _ g.afl.symm f1, paired_imp f2 fun kv m r => ⟨r.1, r.2.to fun b xs e => f _ _ (fun z => s0.apt0 (o := .tup xs) (by rw [← z]; exact e) fun _ z => nomatch z) e⟩⟩, h4, fun z hz => ⟨hd _ (h5 z hz).1, (h5 z hz).2⟩, h6, fun z hz => ?_⟩
  · have hk : m.1 ∈ ks := by rw [← h3]; exact List.mem_map_of_mem hm
    exact r.to (KeepT.fr (f.mono fun x k => k.1.1) fun _ k => k) (fun xs e => f _ _ (g.lo _ hk).1 e) ⟨fun z => z, fun x hx => hx⟩
  · cases e : H (L z) with
    | none => exact absurd e (h7 z hz)
    | some o => rw [f _ _ (g.lo _ hz).1 e]; exact fun z => nomatch z
theorem In4.same {a dl fl : Addr} {ks : List Str} {L : Str → Addr} {N : Int} {fs : Fs} {done : List Str} {H H' : Hp} (g : Gh a dl fl ks L) (h : In4 a dl fl ks L N fs done H) (s : Same H H') : In4 a dl fl ks L N fs done H' := by
  obtain ⟨n, hs, hn⟩ := h.src
  exact h.fr g (Fr.same s) (hs.fr (ok := fun _ => True) (Fr.same s) trivial) hn fun _ z => z
/-- a module is set, and its fault told -/
theorem In4.put {a dl fl : Addr} {ks : List Str} {L : Str → Addr} {N N' n : Int} {fs : Fs} {done done' : List Str} {H H' : Hp} {kvs fkvs : List (Key × V)} {lib : LibT} {z : Str} {v u : V} {t : Th} {y : List Int} (g : Gh a dl fl ks L) (h : In4 a dl fl ks L N fs done H) (hp : Paired (MI (okT a dl fl ks L) L H fs) kvs lib) (hk : lib.map (·.1) = ks) (hf : Paired (FPair H) fkvs fs)
    (hz : z ∈ ks) (hzd : z ∉ done) (hd : ∀ x ∈ done, x ∈ done') (hzd' : z ∈ done')
    (keep : KeepT (okT a dl fl ks L) (okT a dl fl ks L) H H') (kl : ∀ z' ∈ ks, z' ≠ z → ∀ xs, H (L z') = some (.lst xs) → H' (L z') = some (.lst xs)) (al : ∀ x, H x ≠ none → H' x ≠ none) (tup : ∀ x xs, H x = some (.tup xs) → H' x = some (.tup xs))
    (src : Src H' a n) (hn : n ≤ N') (hdl : H' dl = some (.dK (putK kvs (Sum.inr z) v))) (hfl : H' fl = some (.dK (putK fkvs (Sum.inr z) u))) (hu : PathAt H' u y) (ly : y.length ≤ 1) (hm : MI (okT a dl fl ks L) L H' (fs ++ [(z, y)]) (Sum.inr z, v) (z, t)) : In4 a dl fl ks L N' (fs ++ [(z, y)]) done' H' := by
  have nz : z ∉ fs.map (·.1) := fun hm => hzd (h.fd z hm).1
  have hzl : z ∈ lib.map (·.1) := by rw [hk]; exact hz
  have ef : putG fs z y = fs ++ [(z, y)] := by
    unfold putG
    rw [if_neg]
    intro e
    obtain ⟨m, hm, e⟩ := List.any_eq_true.mp e
    exact nz (List.mem_map.mpr ⟨m, hm, of_decide_eq_true e⟩)
  refine ⟨⟨n, src, hn⟩, ⟨_, putG lib z t, hdl, paired_setM (fun _ _ r => r.key) hp hzl hm fun kv m r hml hne => ?_, by rw [putG_in hzl, hk]⟩, ⟨_, hfl, ?_⟩, ?_, fun x hx => ?_, fun m hm => ?_, fun x hx => al _ (h.al x hx)⟩
  · have hmk : m.1 ∈ ks := by rw [← hk]; exact List.mem_map_of_mem hml
    refine r.to keep (fun xs e => kl _ hmk hne xs e) ⟨fun hx => ?_, fun x hx => List.mem_append_left _ hx⟩
    rw [List.map_append] at hx
    rcases List.mem_append.mp hx with hx | hx
    · exact hx
    · rw [List.map_singleton] at hx
      exact absurd (List.mem_singleton.mp hx) hne
  · rw [← ef]
    exact paired_put (fun _ _ r => r.1) (paired_imp hf fun kv m r => ⟨r.1, r.2.to fun b xs e => tup _ _ e⟩) ⟨rfl, hu⟩
  · rw [← ef]
    exact putG_nd h.fn
  · rw [List.map_append] at hx
    rcases List.mem_append.mp hx with hx | hx
    · exact ⟨hd _ (h.fd x hx).1, (h.fd x hx).2⟩
    · rw [List.map_singleton] at hx
      rw [List.mem_singleton.mp hx]
      exact ⟨hzd', hz⟩
  · rcases List.mem_append.mp hm with hm | hm
    · exact h.fy m hm
    · rw [List.mem_singleton.mp hm]; exact ly
theorem new_fault {fs : Fs} {z : Str} {y : List Int} {t : Th} (h : badM (z, t) = some (.str z, y)) : ((z, t) : Str × Th).1 ∉ (fs ++ [(z, y)]).map (·.1) ∧ (∃ rs : List Row, ((z, t) : Str × Th).2 = .sq (rs.map (toT 3)) ∧ (∀ r ∈ rs, RowOk 3 false r) ∧ rs.length ≤ 24 ∧ szT ((z, t) : Str × Th).2 ≤ 600000) ∨ ∃ y', (((z, t) : Str × Th).1, y') ∈ fs ++ [(z, y)] ∧ badM (z, t) = some (.str z, y') := .inr ⟨y, by simp, h⟩
/-- a module that is no list of rows -/
theorem In4.put0 {a dl fl : Addr} {ks : List Str} {L : Str → Addr} {N n : Int} {fs : Fs} {done done' : List Str} {H : Hp} {kvs fkvs : List (Key × V)} {lib : LibT} {z : Str} {v : V} {p : Addr} {t : Th} (g : Gh a dl fl ks L) (h : In4 a dl fl ks L N fs done H) (hp : Paired (MI (okT a dl fl ks L) L H fs) kvs lib) (hk : lib.map (·.1) = ks) (hf : Paired (FPair H) fkvs fs)
    (hz : z ∈ ks) (hzd : z ∉ done) (hd : ∀ x ∈ done, x ∈ done') (hzd' : z ∈ done') (src : Src H a n) (hn : n ≤ N) (hv : ThAt (okT a dl fl ks L) H 10 v t) (ht : isSq t = false) (hsz : szT t ≤ 700000) (hpt : H p = some (.tup [])) (pdl : p ≠ dl) (pfl : p ≠ fl) :
    In4 a dl fl ks L N (fs ++ [(z, [])]) done' (upd (upd H dl (.dK (putK kvs (Sum.inr z) v))) fl (.dK (putK fkvs (Sum.inr z) (.ref p)))) := by
  have k : ∀ b o, b ≠ dl → b ≠ fl → H b = some o → (upd (upd H dl (.dK (putK kvs (Sum.inr z) v))) fl (.dK (putK fkvs (Sum.inr z) (.ref p)))) b = some o := fun b o h1 h2 e => by rw [upd_ne h2, upd_ne h1]; exact e
  have keep : KeepT (okT a dl fl ks L) (okT a dl fl ks L) H (upd (upd H dl (.dK (putK kvs (Sum.inr z) v))) fl (.dK (putK fkvs (Sum.inr z) (.ref p)))) := fun b o kb _ e => ⟨kb, k b o kb.1.2.1 kb.1.2.2 e⟩
  refine In4.put (t := t) g h hp hk hf hz hzd hd hzd' keep (fun z' hz' _ xs e => k _ _ (g.lo _ hz').2.1 (g.lo _ hz').2.2 e) (fun x hx => ?_) (fun x xs e => ?_) ((src.ne g.adl).ne g.afl) hn (by rw [upd_ne g.dfl]; exact upd_same) upd_same ⟨p, rfl, k _ _ pdl pfl hpt⟩ (by simp) ⟨rfl, hsz, .inr ⟨hv.to keep, ht⟩, new_fault (by cases t <;> first | rfl | cases ht)⟩
  · unfold upd
    split
    · exact fun z => nomatch z
    · split
      · exact fun z => nomatch z
      · exact hx
  · obtain ⟨kv1, l1, h1, _⟩ := h.d
    obtain ⟨kv2, h2, _⟩ := h.f
    exact k _ _ (ne_of e h1 (fun z => nomatch z)) (ne_of e h2 (fun z => nomatch z)) e
/-- a module with a thing in it that is no row -/
theorem In4.put1 {a dl fl : Addr} {ks : List Str} {L : Str → Addr} {N n : Int} {fs : Fs} {done done' : List Str} {H Hb : Hp} {kvs fkvs : List (Key × V)} {lib : LibT} {z : Str} {p p2 : Addr} {xs : List V} {rs : List Row} {j : Nat} (g : Gh a dl fl ks L) (h : In4 a dl fl ks L N fs done H) (hdl : H dl = some (.dK kvs)) (hfl : H fl = some (.dK fkvs)) (hp : Paired (MI (okT a dl fl ks L) L H fs) kvs lib) (hk : lib.map (·.1) = ks) (hf : Paired (FPair H) fkvs fs)
    (hz : z ∈ ks) (hzd : z ∉ done) (hd : ∀ x ∈ done, x ∈ done') (hzd' : z ∈ done') (src : Src H a n) (hn : n ≤ N) (hL : H (L z) = some (.lst xs)) (hx : Paired (ThAt (okT a dl fl ks L) H 9) xs (rs.map (toT 3))) (hr : ∀ r ∈ rs, RowOk 3 false r) (lr : rs.length ≤ 24) (hj : j ≤ rs.length) (hsz : szT (.sq (rs.map (toT 3))) ≤ 600000)
    (hval : ∀ kv ∈ kvs, kv.1 = Sum.inr z → kv.2 = .ref (L z)) (hpt : H p = some (.tup [.str "say", .str "no"])) (okp : okT a dl fl ks L p) (sb : Same (upd H (L z) (.lst (xs.take j ++ [.ref p] ++ xs.drop j))) Hb) (hp2 : Hb p2 = some (.tup [.int j])) (p2fl : p2 ≠ fl) :
    In4 a dl fl ks L N (fs ++ [(z, [(j : Int)])]) done' (upd Hb fl (.dK (putK fkvs (Sum.inr z) (.ref p2)))) := by
  have Lz := g.lo z hz
  have k : ∀ b o, b ≠ L z → b ≠ fl → H b = some o → (upd Hb fl (.dK (putK fkvs (Sum.inr z) (.ref p2)))) b = some o := fun b o h1 h2 e => by rw [upd_ne h2]; exact sb _ _ (by rw [upd_ne h1]; exact e)
  have keep : KeepT (okT a dl fl ks L) (okT a dl fl ks L) H (upd Hb fl (.dK (putK fkvs (Sum.inr z) (.ref p2)))) := fun b o kb _ e => ⟨kb, k b o (kb.2 z hz) kb.1.2.2 e⟩
  have hzk : (Sum.inr z : Key) ∈ kvs.map (·.1) := by
    have : z ∈ lib.map (·.1) := by rw [hk]; exact hz
    obtain ⟨m, hm, e⟩ := List.mem_map.mp this
    obtain ⟨i, hi⟩ := List.getElem?_of_mem hm
    obtain ⟨kv, hkv, r⟩ := paired_getR hp hi
    exact List.mem_map.mpr ⟨kv, List.mem_of_getElem? hkv, by rw [r.key, e]⟩
  have eput : putK kvs (Sum.inr z) (.ref (L z)) = kvs := putK_same hzk hval
  have hLb : (upd Hb fl (.dK (putK fkvs (Sum.inr z) (.ref p2)))) (L z) = some (.lst (xs.take j ++ [.ref p] ++ xs.drop j)) := by
    rw [upd_ne Lz.2.2]
    exact sb _ _ upd_same
  have srcb : Src (upd Hb fl (.dK (putK fkvs (Sum.inr z) (.ref p2)))) a n := ((src.ne Lz.1.symm).fr (ok := fun _ => True) (Fr.same sb) trivial).ne g.afl
  refine In4.put (v := .ref (L z)) (t := .sq ((rs.map (toT 3)).take j ++ [noT] ++ (rs.map (toT 3)).drop j)) g h hp hk hf hz hzd hd hzd' keep (fun z' hz' hne xs e => k _ _ (fun e2 => hne (g.inj _ hz' _ hz e2)) (g.lo _ hz').2.2 e) (fun x hx => ?_) (fun x xs' e => ?_) srcb hn ?_ upd_same ⟨p2, rfl, by rw [upd_ne p2fl]; exact hp2⟩ (by simp) ⟨rfl, ?_, .inl ⟨rfl, _, _, hLb, rfl, ?_, ?_⟩, new_fault ?_⟩
  · unfold upd
    split
    · exact fun z => nomatch z
    · cases e : H x with
      | none => exact absurd e hx
      | some o =>
        by_cases c : x = L z
        · rw [sb x (.lst (xs.take j ++ [.ref p] ++ xs.drop j)) (by rw [c]; exact upd_same)]
          exact fun z => nomatch z
        · rw [sb x o (by rw [upd_ne c]; exact e)]
          exact fun z => nomatch z
  · exact k _ _ (ne_of e hL (fun z => nomatch z)) (ne_of e hfl (fun z => nomatch z)) e
  · rw [eput]
    exact k _ _ Lz.2.1.symm g.dfl hdl
  · have e := szTs_app ((rs.map (toT 3)).take j) ((rs.map (toT 3)).drop j)
    rw [List.take_append_drop] at e
    show szT (.sq ((rs.map (toT 3)).take j ++ [noT] ++ (rs.map (toT 3)).drop j)) ≤ _
    rw [szT_sq] at hsz ⊢
    rw [szTs_app, szTs_app, szTs_one]
    have : szT noT ≤ 10 := by decide +kernel
    omega
  · have pr := paired_imp hx fun _ _ q => q.to keep
    refine paired_append (paired_append (paired_takeM pr) (.cons ?_ .nil)) (paired_dropM pr)
    have h1 := keep p (.tup [.str "say", .str "no"]) okp (fun _ z => nomatch z) hpt
    exact ⟨p, false, _, rfl, h1.1, h1.2, by decide, .cons (thAt_at' rfl) (.cons (thAt_at' rfl) .nil)⟩
  · rw [List.length_append, List.length_append, List.length_take, List.length_drop, List.length_map]
    show min j rs.length + 1 + (rs.length - j) ≤ 25
    omega
  · show (firstLT 4 false [] _).map _ = _
    rw [first_ins hr hj]
    rfl
end Ft
set_option Elab.async false
set_option linter.all false
set_option maxRecDepth 100000
set_option maxHeartbeats 1000000
set_option pp.maxSteps 3000
set_option pp.deepTerms.threshold 8
namespace Ft
open PySem L2
def topOf (kvs : List (Key × V)) (z : Str) : Addr := match valV kvs (Sum.inr z) with
  | some (.ref l) => l
  | _ => 0
theorem vals_uniq : ∀ {kvs : List (Key × V)}, (kvs.map (·.2)).Nodup → ∀ {kv kv2 : Key × V}, kv ∈ kvs → kv2 ∈ kvs → kv.2 = kv2.2 → kv = kv2
  | [], _, _, _, h, _, _ => by cases h
  | x :: l, hn, kv, kv2, h1, h2, e => by
    rw [List.map_cons, List.nodup_cons] at hn
    rcases List.mem_cons.mp h1 with e1 | g1 <;> rcases List.mem_cons.mp h2 with e2 | g2
    · rw [e1, e2]
    · rw [← e1] at hn
      exact absurd (List.mem_map.mpr ⟨kv2, g2, e.symm⟩) hn.1
    · rw [← e2] at hn
      exact absurd (List.mem_map.mpr ⟨kv, g1, e⟩) hn.1
    · exact vals_uniq hn.2 g1 g2 e
theorem In4.init {a dl fl : Addr} {H2 H3 : Hp} {kvs : List (Key × V)} {lib : Lib} {n0 n N : Int} (sr2 : Src H2 a n0) (src : Src H3 a n) (hn : n ≤ N) (adl : a ≠ dl) (nfl : H3 fl = none) (hdl : H3 dl = some (.dK kvs)) (h : LibP (fun x => H2 x = none ∧ x ≠ dl) (fun x => (H2 x = none ∧ x ≠ dl) ∧ noTop kvs x) H3 kvs lib) (hv : (kvs.map (·.2)).Nodup) (lok : LibOk lib) :
    ∃ L, Gh a dl fl (lib.map (·.1)) L ∧ In4 a dl fl (lib.map (·.1)) L N [] [] (upd H3 fl (.dK [])) ∧ ∀ z ∈ lib.map (·.1), H2 (L z) = none := by
  have hkeys : kvs.map (·.1) = (lib.map (·.1)).map Sum.inr := libAt_keys (h.at fun _ k => k.1)
  have kvd : (kvs.map (·.1)).Nodup := by rw [hkeys]; exact List.Pairwise.map _ (fun _ _ h e => h (Sum.inr.inj e)) lok.nd
  have afl : a ≠ fl := (src.nn nfl).symm
  have dfl : dl ≠ fl := ne_of_none hdl nfl
  -- the module's list
  have top : ∀ z ∈ lib.map (·.1), ∃ kv ∈ kvs, kv.1 = Sum.inr z ∧ kv.2 = .ref (topOf kvs z) ∧ (H2 (topOf kvs z) = none ∧ topOf kvs z ≠ dl) ∧ ∃ xs, H3 (topOf kvs z) = some (.lst xs) := fun z hz => by
    obtain ⟨m, hm, e⟩ := List.mem_map.mp hz
    obtain ⟨i, hi⟩ := List.getElem?_of_mem hm
    obtain ⟨kv, hkv, ek, l, xs, e1, k, hl, _⟩ := paired_getR h hi
    have e2 : valV kvs (Sum.inr z) = some (.ref l) := by
      obtain ⟨k1, v1⟩ := kv
      dsimp only at ek e1
      subst ek e1
      rw [← e]
      exact valV_at kvd hkv
    have et : topOf kvs z = l := by unfold topOf; rw [e2]
    exact ⟨kv, List.mem_of_getElem? hkv, by rw [ek, e], by rw [et]; exact e1, by rw [et]; exact k, xs, by rw [et]; exact hl⟩
  refine ⟨topOf kvs, ⟨adl, afl, dfl, fun z hz => ?_, fun z hz z' hz' e => ?_, lok.nd, fun z hz => ?_, by rw [List.length_map]; exact lok.few⟩, ⟨⟨n, src.ne afl, hn⟩, ⟨kvs, lib.map (fun m => (m.1, Th.sq (m.2.map (toT 3)))), by rw [upd_ne dfl]; exact hdl, ?_, by rw [List.map_map]; rfl⟩, ⟨[], upd_same, .nil⟩, by simp, (fun z hz => by cases hz), (fun m hm => by cases hm), fun z hz => ?_⟩, fun z hz => ?_⟩
  · obtain ⟨_, _, _, _, ⟨k1, k2⟩, xs, hl⟩ := top z hz
    exact ⟨sr2.nn k1, k2, ne_of_none hl nfl⟩
  · obtain ⟨kv, hkv, e1, e2, _⟩ := top z hz
    obtain ⟨kv', hkv', e1', e2', _⟩ := top z' hz'
    have := vals_uniq hv hkv hkv' (by rw [e2, e2', e])
    rw [this, e1'] at e1
    exact (Sum.inr.inj e1).symm
  · obtain ⟨m, hm, e⟩ := List.mem_map.mp hz
    rw [← e]; exact lok.word m hm
  · have keep : ∀ x o, H3 x = some o → (upd H3 fl (.dK [])) x = some o := fun x o e => by rw [upd_ne (ne_of_none e nfl)]; exact e
    have okr : KeepT (fun x => (H2 x = none ∧ x ≠ dl) ∧ noTop kvs x) (okT a dl fl (lib.map (·.1)) (topOf kvs)) H3 (upd H3 fl (.dK [])) := fun x o k _ e => ⟨⟨⟨sr2.nn k.1.1, k.1.2, ne_of_none e nfl⟩, fun z hz e2 => by
      obtain ⟨kv, hkv, _, e3, _⟩ := top z hz
      exact k.2 (List.mem_map.mpr ⟨kv, hkv, by rw [e3, e2]⟩)⟩, keep _ _ e⟩
    have go : ∀ {kvs' : List (Key × V)} {lib' : Lib}, LibP (fun x => H2 x = none ∧ x ≠ dl) (fun x => (H2 x = none ∧ x ≠ dl) ∧ noTop kvs x) H3 kvs' lib' → (∀ kv ∈ kvs', kv ∈ kvs) → (∀ m ∈ lib', m.2.length ≤ 24 ∧ ∀ r ∈ m.2, RowO8 3 false r) → Paired (MI (okT a dl fl (lib.map (·.1)) (topOf kvs)) (topOf kvs) (upd H3 fl (.dK [])) []) kvs' (lib'.map fun m => (m.1, Th.sq (m.2.map (toT 3)))) := by
      intro kvs' lib' h
      induction h with
      | nil => intro _ _; exact .nil
      | @cons kv m kvs' lib' q _ ih =>
        intro hk hl
        refine .cons ?_ (ih (fun x hx => hk x (by simp [hx])) fun x hx => hl x (by simp [hx]))
        obtain ⟨lm, rm⟩ := hl m (by simp)
        have rk : ∀ x ∈ m.2, RowOk 3 false x := fun x hx => (rm x hx).ok
        obtain ⟨e, l, xs, e1, k, hll, hx⟩ := q
        have e2 : valV kvs (Sum.inr m.1) = some (.ref l) := by
          have := hk kv (by simp)
          obtain ⟨i, hi⟩ := List.getElem?_of_mem this
          obtain ⟨k1, v1⟩ := kv
          dsimp only at e e1
          subst e e1
          exact valV_at kvd hi
        have et : topOf kvs m.1 = l := by unfold topOf; rw [e2]
        have sz6 : szT ((m.1, Th.sq (m.2.map (toT 3))) : Str × Th).2 ≤ 600000 := by
          show szT (.sq (m.2.map (toT 3))) ≤ 600000
          rw [szT_sq]
          have h1 := szTs_map (f := toT 3) (S := 21845) (rs := m.2) fun r hr => sz_row (rm r hr)
          have : m.2.length * 21845 ≤ 24 * 21845 := Nat.mul_le_mul_right _ lm
          omega
        refine ⟨e, ?_, .inl ⟨by rw [et]; exact e1, xs, _, by rw [et]; exact keep _ _ hll, rfl, paired_mapT (paired_impM hx fun x r hr q => ((row_th 3 false x r (rk r hr) q).to okr).upTo (by decide)), by rw [List.length_map]; omega⟩, .inl ⟨by simp, m.2, rfl, rk, lm, sz6⟩⟩
        show szT (.sq (m.2.map (toT 3))) ≤ 700000
        have sz7 := sz6
        dsimp only at sz7
        omega
    exact go h (fun _ z => z) fun m hm => ⟨lok.len m hm, lok.rows m hm⟩
  · obtain ⟨_, _, _, _, _, xs, hl⟩ := top z hz
    rw [upd_ne (ne_of_none hl nfl), hl]
    exact fun z => nomatch z
  · obtain ⟨_, _, _, _, ⟨k1, _⟩, _⟩ := top z hz
    exact k1
theorem rows_of : ∀ {lib : LibT}, (∀ m ∈ lib, ∃ rs : List Row, m.2 = .sq (rs.map (toT 3)) ∧ (∀ r ∈ rs, RowOk 3 false r) ∧ rs.length ≤ 24) → ∃ libR : Lib, lib = libR.map (fun m => (m.1, Th.sq (m.2.map (toT 3)))) ∧ ∀ m ∈ libR, (∀ r ∈ m.2, RowOk 3 false r) ∧ m.2.length ≤ 24
  | [], _ => ⟨[], rfl, fun m h => by cases h⟩
  | m :: l, h => by
    obtain ⟨rs, e, h1, h2⟩ := h m (by simp)
    obtain ⟨lr, e2, h3⟩ := rows_of (lib := l) fun x hx => h x (List.mem_cons_of_mem _ hx)
    obtain ⟨m1, m2⟩ := m
    dsimp only at e
    refine ⟨(m1, rs) :: lr, by rw [e2, e]; rfl, fun x hx => ?_⟩
    rcases List.mem_cons.mp hx with rfl | hx
    · exact ⟨h1, h2⟩
    · exact h3 x hx
end Ft
set_option Elab.async false
set_option linter.all false
set_option maxRecDepth 100000
set_option maxHeartbeats 1000000
set_option pp.maxSteps 3000
set_option pp.deepTerms.threshold 8
namespace Ft
open PySem L2
def qn04 : Str := "law.<locals>.<lambda>"
def spInit4 (C CP : Addr) : Sp := fun vs H Q E => spProgramInit C vs H Q E ∨ spProgramInitT C CP vs H Q E ∨ spProgramInitN C CP vs H Q E
section
variable {P : PySem.Program} {w : World} {K : PySem.W.Frag} {mg : Str → Option Value} {base : Heap}
abbrev sLaw : Stmt := topS 47
theorem scLaw : FnScope ["_law_script", "_law_turn", "_law_source_here", "_law_again", "_law_handed_here", "_law_library_here", "_law_faults", "_law_name", "_law_way", "_law_at", "_law_due", "_law_before", "_law_one"] ["_law_script"] (defScope sLaw) := ⟨rfl, rfl, rfl, by decide +kernel, rfl, by decide +kernel, by decide +kernel⟩
def spLaw (K : PySem.W.Frag) (Pt : Addr) : Sp := fun vs H Q _ => ∃ (a : Addr) (ns : List Int), vs = [.ref a] ∧ SqL K H a (ns.map V.int) ∧ H Pt = some (.tbl #[]) ∧ ∀ H', Q (.bl true) H'
theorem ok_law {f C CP CT CW g c Pt fI fM : Addr} {fd fdT fdI fdM : FuncData} {k : Nat} (F : Fun K "law" "law" sLaw f fd) (hcode : fd.code = .ref c) (TB : LamX.TabB base mg c Pt) (B : Bl mg) (hk : 30 ≤ k)
    (gLSource : Own P w K mg base 1 "_law_source" ["_law_script", "_law_k"] (spLSource K)) (gLDraw : Own P w K mg base 1 "_law_draw" ["_law_source_here", "_law_many"] spLDraw) (gLLibrary : Own P w K mg base 12 "_law_library" ["_law_source_here"] spLLibraryP)
    (gLNoLibrary : Own P w K mg base 3 "_law_no_library" ["_law_source_here"] spLNoLibrary) (gLNoRows : Own P w K mg base 5 "_law_no_rows" ["_law_source_here"] spLNoRows)
    (gLTupled : Own P w K mg base 12 "_law_tupled" ["_law_thing"] (spLTupledR 10)) (gLHanded : Own P w K mg base 13 "_law_handed" ["_law_source_here", "_law_library_here"] spLHandedT) (gLSame : Own P w K mg base 12 "_law_same" ["_law_found", "_law_due"] (spLSame 11))
    (gm_modules : OwnM P w K mg base 1 C "modules" ["self"] (spProgramModules C) fM fdM)
    (FT : Fun K "_law_tried" "_law_tried" sLTried g fdT) (mT : mg "_law_tried" = some (.ref g)) (bT : Binds K fdT ["_law_deed"] []) (TR : Tri P w K mg base CP CT CW)
    (mPg : mg "Program" = some (.ref C)) (M : Mk K C fI) (FI : FnOk P w K mg base (L2N.CX P w) 11 fI fdI ["self", "modules"] (spInit4 C CP)) (bI : Binds K fdI ["self", "modules"] []) : FnOk P w K mg base CX0 (k + 1) f fd ["_law_script"] (spLaw K Pt) := by
  refine Ft.Fun.okC F hcode scLaw (fun vs H Q E h => ?_) (fun A outer s H vs Q E hr h => ?_)
  · obtain ⟨a, ns, rfl, _⟩ := h
    rfl
  obtain ⟨sa, ns, rfl, hS0, htb, q⟩ := h
  refine ⟨_, (pss_cons (ps_for PassesOwn.never rfl (pi_range1 (by rfl) B.range (pa_cons (pe_callB (call_max2 rfl) (by rfl) B.max (by decide +kernel) (pa_cons pe_int (pa_cons (pe_callB (call_min2 rfl) (by rfl) B.min (by decide +kernel) (pa_cons pe_int (pa_cons (pe_callB call_len_seq (by rfl) B.len (by decide +kernel) (pa_cons (pv 0) pa_nil)) pa_nil))) pa_nil))) pa_nil)) (pg_name (i := 1) scLaw.nd rfl (by first | exact Or.inl rfl | exact Or.inr rfl)) (pss_cons (ps_set (i := 2) scLaw.nd rfl (by first | exact Or.inl rfl | exact Or.inr rfl) (pe_own gLSource (hr.mono (by omega)) (by rfl) (pa_cons (pv 0) (pa_cons (pv 1) pa_nil))))
      (pss_cons (ps_for PassesOwn.never rfl (pi_range1 (by rfl) B.range (pa_cons pe_int pa_nil)) (pg_name (i := 3) scLaw.nd rfl (by first | exact Or.inl rfl | exact Or.inr rfl)) (pss_cons (ps_set (i := 4) scLaw.nd rfl (by first | exact Or.inl rfl | exact Or.inr rfl) (pe_own gLNoLibrary (hr.mono (by omega)) (by rfl) (pa_cons (pv 2) pa_nil)))
      (pss_one (ps_if (pt_not (pt_val (pe_own gLSame (hr.mono (by omega)) (by rfl) (pa_cons (pe_tried qn04 FT mT bT TR TB (by rfl) (by rfl) (hr.mono (by omega)) (by first | exact (show LamX.LamS (defScope sLaw) _ from LamX.lamS_by (by decide +kernel)) | exact LamX.lamS_by (by rfl)) (by rfl) (fun _ _ _ _ _ => by rfl) (fun A outer s H E f c' hr => by exact (pe_make M (fn_N FI) (hr.mono (by omega)) (by rfl) mPg bI .nil (L2.passes_call lam_takes (fun _ _ _ _ h => h)) (pa_cons (pv 4) pa_nil)))) (pa_cons (pe_tup (pa_cons pe_str (pa_cons pe_non (pa_cons (pe_tup pa_nil) pa_nil)))) pa_nil))))) (pss_one (ps_ret pe_bl)) pss_nil))))
      (pss_cons (ps_set (i := 5) scLaw.nd rfl (by first | exact Or.inl rfl | exact Or.inr rfl) (pe_own gLLibrary (hr.mono (by omega)) (by rfl) (pa_cons (pv 2) pa_nil)))
      (pss_cons (ps_set (i := 6) scLaw.nd rfl (by first | exact Or.inl rfl | exact Or.inr rfl) pe_dnewK)
      (pss_cons (ps_for PassesOwn.never rfl (pi_list (pe_callB (call_sortedDL rfl hr.units) (by rfl) B.sorted (by decide +kernel) (pa_cons (pv 5) pa_nil))) (pg_name (i := 7) scLaw.nd rfl (by first | exact Or.inl rfl | exact Or.inr rfl)) (pss_cons (ps_set (i := 8) scLaw.nd rfl (by first | exact Or.inl rfl | exact Or.inr rfl) (pe_own gLDraw (hr.mono (by omega)) (by rfl) (pa_cons (pv 2) (pa_cons pe_int pa_nil))))
      (pss_one (ps_if (pt_cmpR op_eq (pv 8) pe_int (nomark _)) (pss_one (ps_asg (pe_tup (pa_cons (pe_own gLNoRows (hr.mono (by omega)) (by rfl) (pa_cons (pv 2) pa_nil)) (pa_cons (pe_tup pa_nil) pa_nil))) (pg_tup (by rfl) (pgs_cons (pg_sub (pv 5) (pv 7) (set_dict (hu_of hr))) (pgs_cons (pg_sub (pv 6) (pv 7) (set_dict (hu_of hr))) pgs_nil))))) (pss_one (ps_if (pt_cmpR op_eq (pv 8) pe_int (nomark _)) (pss_cons (ps_set (i := 9) scLaw.nd rfl (by first | exact Or.inl rfl | exact Or.inr rfl) (pe_own gLDraw (hr.mono (by omega)) (by rfl) (pa_cons (pv 2) (pa_cons (pe_op op_add (pe_callB call_len_seq (by rfl) B.len (by decide +kernel) (pa_cons (pe_dget (hu_of hr) (pv 5) (pv 7) (fun _ _ => rfl)) pa_nil)) pe_int) pa_nil))))
      (pss_cons (ps_expr (pe_bm PySem.F.plainAttrs_list PySem.F.slot_list_insert PySem.F.type_list_insert mt_insert (pe_dget (hu_of hr) (pv 5) (pv 7) (fun _ _ => rfl)) (pa_cons (pv 9) (pa_cons (pe_tup (pa_cons pe_str (pa_cons pe_str pa_nil))) pa_nil))))
      (pss_one (ps_dput (hu_of hr) (pv 6) (pv 7) (pe_tup (pa_cons (pv 9) pa_nil)) rfl)))) pss_nil))))))
      (pss_cons (ps_set (i := 4) scLaw.nd rfl (by first | exact Or.inl rfl | exact Or.inr rfl) (pe_own gLHanded (hr.mono (by omega)) (by rfl) (pa_cons (pv 2) (pa_cons (pv 5) pa_nil))))
      (pss_cons (ps_set (i := 10) scLaw.nd rfl (by first | exact Or.inl rfl | exact Or.inr rfl) (pe_tup (pa_cons pe_str (pa_cons (pe_callB (call_sortedDL rfl hr.units) (by rfl) B.sorted (by decide +kernel) (pa_cons (pv 5) pa_nil)) pa_nil))))
      (pss_cut (ps_if (pt_cmpR (op_neD0 hr.units0) (pv 6) pe_dnewK (nomark _)) (pss_one (ps_set (i := 10) scLaw.nd rfl (by first | exact Or.inl rfl | exact Or.inr rfl) (pe_tup (pa_cons pe_str (pa_cons (pe_ix ix_list (pe_callB (call_sortedDL rfl hr.units) (by rfl) B.sorted (by decide +kernel) (pa_cons (pv 6) pa_nil)) pe_int (fun _ _ => rfl)) (pa_cons (pe_dget (hu_of hr) (pv 6) (pe_ix ix_list (pe_callB (call_sortedDL rfl hr.units) (by rfl) B.sorted (by decide +kernel) (pa_cons (pv 6) pa_nil)) pe_int (fun _ _ => rfl)) (fun _ _ => rfl)) pa_nil)))))) pss_nil)
      (pss_cons (ps_set (i := 11) scLaw.nd rfl (by first | exact Or.inl rfl | exact Or.inr rfl) (pe_callTy (call_dictP rfl) (by rfl) B.dict (by decide +kernel) (pa_cons (pe_lock (pe_lc (own := [("_law_one", 12)]) (g := (gName 12)) (tt := tYes) (by rfl) scLaw.nd (pi_keys (pv 4)) (blkOk_by (own := [("_law_one", 12)]) (N := ["_law_script", "_law_turn", "_law_source_here", "_law_again", "_law_handed_here", "_law_library_here", "_law_faults", "_law_name", "_law_way", "_law_at", "_law_due", "_law_before", "_law_one"]) (sc := defScope sLaw) (by decide +kernel)) (fun _ _ _ _ _ => (pg_name (i := 12) scLaw.nd rfl (by first | exact Or.inl rfl | exact Or.inr rfl))) (fun _ _ _ _ _ => pts_nil) (fun _ _ _ _ _ => (pe_tup (pa_cons (pv 12) (pa_cons (pe_own gLTupled (hr.mono (by omega)) (by rfl) (pa_cons (pe_dget (hu_of hr) (pv 4) (pv 12) (fun _ _ => rfl)) pa_nil)) pa_nil)))))) pa_nil)))
      (pss_cons (ps_for PassesOwn.never rfl (pi_range1 (by rfl) B.range (pa_cons pe_int pa_nil)) (pg_name (i := 3) scLaw.nd rfl (by first | exact Or.inl rfl | exact Or.inr rfl)) (pss_one (ps_if (pt_not (pt_val (pe_own gLSame (hr.mono (by omega)) (by rfl) (pa_cons (pe_tried qn04 FT mT bT TR TB (by rfl) (by rfl) (hr.mono (by omega)) (by first | exact (show LamX.LamS (defScope sLaw) _ from LamX.lamS_by (by decide +kernel)) | exact LamX.lamS_by (by rfl)) (by rfl) (fun _ _ _ _ _ => by rfl) (fun A outer s H E f c' hr => by exact (pe_meth0 (pe_make M (fn_N FI) (hr.mono (by omega)) (by rfl) mPg bI .nil (L2.passes_call lam_takes (fun _ _ _ _ h => h)) (pa_cons (pv 4) pa_nil)) gm_modules.c gm_modules.m gm_modules.F (hr.mono (by omega)) gm_modules.b .nil pass0))) (pa_cons (pv 10) pa_nil))))) (pss_one (ps_ret pe_bl)) pss_nil)))
      (pss_one (ps_if (pt_cmpR (op_ne_dictW hr.units) (pe_callTy (call_dictP rfl) (by rfl) B.dict (by decide +kernel) (pa_cons (pe_lock (pe_lc (own := [("_law_one", 12)]) (g := (gName 12)) (tt := tYes) (by rfl) scLaw.nd (pi_keys (pv 4)) (blkOk_by (own := [("_law_one", 12)]) (N := ["_law_script", "_law_turn", "_law_source_here", "_law_again", "_law_handed_here", "_law_library_here", "_law_faults", "_law_name", "_law_way", "_law_at", "_law_due", "_law_before", "_law_one"]) (sc := defScope sLaw) (by decide +kernel)) (fun _ _ _ _ _ => (pg_name (i := 12) scLaw.nd rfl (by first | exact Or.inl rfl | exact Or.inr rfl))) (fun _ _ _ _ _ => pts_nil) (fun _ _ _ _ _ => (pe_tup (pa_cons (pv 12) (pa_cons (pe_own gLTupled (hr.mono (by omega)) (by rfl) (pa_cons (pe_dget (hu_of hr) (pv 4) (pv 12) (fun _ _ => rfl)) pa_nil)) pa_nil)))))) pa_nil)) (pv 11) (nomark _)) (pss_one (ps_ret pe_bl)) pss_nil)))))))))))))
      (pss_one (ps_ret pe_bl))), ?_⟩
  have hl : (ns.map V.int).length = ns.length := List.length_map _
  refine ⟨_, rfl, sa, _, rfl, .inl hS0, 16, _, rfl, 8, _, rfl, _, rfl, ?_, ?_, ?_⟩
  · split <;> split <;> omega
  · split <;> split <;> omega
  have nle : (if (if (((ns.map V.int).length : Nat) : Int) < 16 then (((ns.map V.int).length : Nat) : Int) else 16) > 8 then (if (((ns.map V.int).length : Nat) : Int) < 16 then (((ns.map V.int).length : Nat) : Int) else 16) else 8) ≤ 16 := by split <;> split <;> omega
  generalize (if (if (((ns.map V.int).length : Nat) : Int) < 16 then (((ns.map V.int).length : Nat) : Int) else 16) > 8 then (if (((ns.map V.int).length : Nat) : Int) < 16 then (((ns.map V.int).length : Nat) : Int) else 16) else 8) = N at *
  refine for_it (walk_range (lo := 0) (n := N.toNat)) (fun i σ H' => LamX.ExtN H H' ∧ LamX.Tabs [(Pt, qn04)] H' ∧ ∃ v1 v2 v3 v4 v5 v6 v7 v8 v9 v10 v11, σ = [some (.ref sa), v1, v2, v3, v4, v5, v6, v7, v8, v9, v10, v11, none])
    ⟨fun _ _ e _ => e, (fun p hp => by rw [List.mem_singleton.mp hp]; exact LamX.TabS.nil htb), _, _, _, _, _, _, _, _, _, _, _, rfl⟩ (fun _ _ _ _ _ => trivial) ?_ ?_
  rotate_left
  · rintro σ H9 ⟨e9, t9, v1, v2, v3, v4, v5, v6, v7, v8, v9, v10, v11, rfl⟩
    exact q _
  rintro i x0 σ H0 G0 hi ⟨eH, tb0, v1, v2, v3, v4, v5, v6, v7, v8, v9, v10, v11, rfl⟩ ⟨rfl, rfl⟩
  refine ⟨_, rfl, _, rfl, sa, ns, _, rfl, seq_extN eH hS0, by omega, by omega, fun H1 a s1 na sr1 => ?_⟩
  have tb1 := tb0.ext s1
  -- what is no library
  refine ⟨3, rfl, by decide, by decide, ?_⟩
  refine for_it (walk_range (lo := 0) (n := (3 : Int).toNat)) (fun m σ H' => LamX.ExtN G0 H' ∧ LamX.Tabs [(Pt, qn04)] H' ∧ (∃ n, Src H' a n ∧ n ≤ m) ∧ ∃ v3 v4, σ = [some (.ref sa), some (.int (0 + i)), some (.ref a), v3, v4, v5, v6, v7, v8, v9, v10, v11, none])
    ⟨extN_same s1, tb1, ⟨0, sr1, by omega⟩, _, _, rfl⟩ (fun _ _ _ _ _ => trivial) ?_ ?_
  · rintro m x0 σ H2 H3 hm ⟨e2, t2, ⟨n, sr, hn⟩, v3, v4, rfl⟩ ⟨rfl, rfl⟩
    have m3 : m < 3 := by omega
    refine ⟨_, rfl, a, n, rfl, sr, by omega, fun H4 v f4 sr4 hv => ?_⟩
    have t4 := tabs_fr t2 sr f4
    dsimp only [gName, tSeq, tAsg, tIfS, tNot, tB, tCall, tCons, tNil, tTup, tC]
    refine tried_bad (u := .non) (y := []) rfl (by decide) t4 (fun H5 R E e5 xb => ?_) fun H5 p5 e5 t5 hp5 => ?_
    · refine ⟨_, rfl, fun x dx nx ndx xdx => ?_⟩
      have sI : Same H5 (upd (upd H5 dx (.own x)) x (.ins C dx [])) := fun b o e => by
        rw [upd_ne (ne_of_none e nx), upd_ne (ne_of_none e ndx)]; exact e
      refine .inr (.inr ⟨x, dx, v, rfl, upd_same, NLAt.check (hv.to (ok' := fun _ => True) fun b o k n e => ⟨trivial, sI _ _ (e5 _ _ e n)⟩) fun H6 d v s6 hv6 nd6 => xb H6 d v (Same.trans sI s6) hv6 nd6⟩)
    refine due_fin (Q := fun v H6 => spLSame 11 ([.ref p5, v] ++ []) H6 _ E0) (z := .non) (y := []) rfl (by decide) fun H6 p6 s6 hp6 => ?_
    refine ⟨_, _, _, rfl, hp5.to (fun a kd xs e => s6 _ _ e), hp6, fun H7 s7 => ⟨true, rfl, iteF ?_⟩⟩
    have s57 := Same.trans s6 s7
    have e7 := ext_same0 e5 s57
    refine ⟨ext_ext (ext_fr e2 f4 na) e7, t5.ext s57, ⟨_, src_ext sr4 e7, by omega⟩, _, _, rfl⟩
  rintro σ H2 ⟨e2, tb2, ⟨n0, sr0, hn0⟩, w3, w4, rfl⟩
  refine ⟨_, rfl, a, n0, rfl, sr0, by omega, fun H3 dl kvs0 lib0 n3 f3 sr3 n30 n31 ndl hdl hlibP hvn lpos lok => ?_⟩
  have tb3 := tabs_fr tb2 sr0 f3
  have e3 : LamX.ExtN G0 H3 := ext_fr e2 f3 na
  have adl : a ≠ dl := fun z => by rw [← z] at hdl; exact sr3.apt0 hdl (fun _ z => nomatch z)
  refine fun fl nfl => ?_
  have gdl : ∀ o, G0 dl = some o → (∀ ps, o ≠ .tbl ps) → False := fun o e n => by rw [e2 _ _ e n] at ndl; cases ndl
  have gfl : ∀ o, G0 fl = some o → (∀ ps, o ≠ .tbl ps) → False := fun o e n => by rw [e3 _ _ e n] at nfl; cases nfl
  obtain ⟨L, gh, I3, L2n⟩ := In4.init (N := 200010) sr0 sr3 (by omega) adl nfl hdl hlibP hvn lok
  have hkeys3 : kvs0.map (·.1) = (lib0.map (·.1)).map Sum.inr := libAt_keys (hlibP.at fun _ k => k.1)
  have s34 : Same H3 (upd H3 fl (.dK [])) := Same.new nfl
  have hdl4 := s34 _ _ hdl
  have tb4 := tb3.ext s34
  have e4 : LamX.ExtN G0 (upd H3 fl (.dK [])) := ext_same0 e3 s34
  generalize upd H3 fl (.dK []) = H4 at *
  have ksl : (lib0.map (·.1)).length = lib0.length := List.length_map _
  generalize hKS : lib0.map (·.1) = ks at *
  clear hlibP hvn
  refine ⟨_, rfl, dl, kvs0, ks, rfl, .inl hdl4, hkeys3, fun ys l0 hperm hsort nl0 => ?_⟩
  have okl0 : okH a dl fl l0 := by
    obtain ⟨n, sr, _⟩ := I3.src
    obtain ⟨kv1, _, h1, _⟩ := I3.d
    obtain ⟨kv2, h2, _⟩ := I3.f
    exact ⟨sr.nn nl0, ne_of_none' h1 nl0, ne_of_none' h2 nl0⟩
  have nl0L : ∀ z ∈ ks, l0 ≠ L z := fun z hz e => I3.al z hz (by rw [← e]; exact nl0)
  have hl0 : (upd H4 l0 (.lst (ys.map V.str))) l0 = some (.lst (ys.map V.str)) := upd_same
  have s45 : Same H4 (upd H4 l0 (.lst (ys.map V.str))) := Same.new nl0
  replace I3 := I3.same gh s45
  replace tb4 := tb4.ext s45
  replace e4 := ext_same0 e4 s45
  generalize upd H4 l0 (.lst (ys.map V.str)) = H5 at *
  clear hdl4
  have ysl : ys.length = ks.length := hperm.length_eq
  have ysd : ys.Nodup := hperm.nodup_iff.mpr gh.nd
  refine ⟨l0, rfl, ⟨_, SqL.of hl0⟩, ?_⟩
  refine for_it (walk_list (xs := ys.map V.str)) (fun m σ H' => LamX.ExtN G0 H' ∧ LamX.Tabs [(Pt, qn04)] H' ∧ (∃ fs, In4 a dl fl ks L (200010 + 110 * m) fs (ys.take m) H' ∧ fs.length ≤ m) ∧ H' l0 = some (.lst (ys.map V.str)) ∧ ∃ u7 u8 u9, σ = [some (.ref sa), some (.int (0 + i)), some (.ref a), w3, w4, some (.ref dl), some (.ref fl), u7, u8, u9, v10, v11, none])
    ⟨e4, tb4, ⟨[], ?_, Nat.le_refl 0⟩, hl0, _, _, _, rfl⟩ (fun m σ H' _ h => SqL.of h.2.2.2.1) ?_ ?_
  · exact I3
  · rintro m x σ H6 H7 hm ⟨e6, t6, ⟨fs, I6, lfs⟩, hl6, u7, u8, u9, rfl⟩ ⟨rfl, hx⟩
    obtain ⟨z, hz, rfl⟩ : ∃ z, ys[m]? = some z ∧ x = .str z := by
      rw [List.getElem?_map] at hx
      obtain ⟨z, h1, h2⟩ := Option.map_eq_some_iff.mp hx
      exact ⟨z, h1, h2.symm⟩
    have m4 : m < 4 := by
      have := (List.getElem?_eq_some_iff.mp hz).1
      have := gh.few
      omega
    have zk : z ∈ ks := hperm.mem_iff.mp (List.mem_of_getElem? hz)
    have et : ys.take (m + 1) = ys.take m ++ [z] := by rw [List.take_add_one, hz]; rfl
    have zt : z ∉ ys.take m := fun h => by
      have nd : (ys.take (m + 1)).Nodup := ysd.sublist (List.take_sublist _ _)
      rw [et, List.nodup_append] at nd
      exact nd.2.2 z h z (by simp) rfl
    have zt' : z ∈ ys.take (m + 1) := by rw [et]; simp
    have ztS : ∀ x ∈ ys.take m, x ∈ ys.take (m + 1) := fun x h => by rw [et]; exact List.mem_append_left _ h
    obtain ⟨n6, sr6, hn6⟩ := I6.src
    refine ⟨_, rfl, a, 3, n6, rfl, sr6, by omega, by decide, by decide, fun H8 way f8 sr8 w0 w1 => ?_⟩
    have t8 := tabs_fr t6 sr6 f8
    have e8 : LamX.ExtN G0 H8 := ext_fr e6 f8 na
    have I8 := I6.fr (N' := 200010 + 110 * m + 1) gh f8 sr8 (by omega) (fun _ z => z)
    have hl8 := f8 _ _ okl0.1 hl6
    clear I6 t6 e6 hl6 f8 sr6
    refine ⟨_, rfl, rfl, _, rfl, ite2 (fun hw => ?_) (fun hw => ?_)⟩
    · refine ⟨_, rfl, a, _, rfl, sr8, by omega, fun H9 v t n9 f9 sr9 n90 n91 hv hsq => ?_⟩
      have t9 := tabs_fr t8 sr8 f9
      have e9 : LamX.ExtN G0 H9 := ext_fr e8 f9 na
      have I9 := I8.fr (N' := 200010 + 110 * ((m + 1 : Nat) : Int)) gh f9 sr9 (by omega) (fun _ z => z)
      have hl9 := f9 _ _ okl0.1 hl8
      refine ⟨Nat.zero_le _, fun p1 np1 => ⟨(by show 2 ≤ sizeLine; decide), fun p2 np2 => ?_⟩⟩
      have s9 : Same H9 (upd (upd H9 p1 (.tup [])) p2 (.tup [v, .ref p1])) := Same.trans (Same.new np1) (Same.new np2)
      have hp1 : (upd (upd H9 p1 (.tup [])) p2 (.tup [v, .ref p1])) p1 = some (.tup []) := (Same.new np2) _ _ upd_same
      have hp2 : (upd (upd H9 p1 (.tup [])) p2 (.tup [v, .ref p1])) p2 = some (.tup [v, .ref p1]) := upd_same
      generalize upd (upd H9 p1 (.tup [])) p2 (.tup [v, .ref p1]) = K9 at *
      have J9 := I9.same gh s9
      obtain ⟨⟨kvs, lib, hd9, hp9, hk9⟩, ⟨fkvs, hf9, hfp9⟩⟩ := And.intro J9.d J9.f
      have lkv : kvs.length ≤ 4 := by
        rw [paired_len hp9, ← List.length_map (f := fun m : Str × Th => m.1), hk9]; exact gh.few
      have lfk : fkvs.length ≤ 4 := by rw [paired_len hfp9]; omega
      have k9 := s9 _ _ hl9
      have t10 := t9.ext s9
      have e10 := ext_same0 e9 s9
      have p1d : p1 ≠ dl := ne_of hp1 hd9 (fun z => nomatch z)
      have p1f : p1 ≠ fl := ne_of hp1 hf9 (fun z => nomatch z)
      refine ⟨p2, _, rfl, SqT.of hp2, rfl, _, _, rfl, _, rfl, _, rfl, dl, _, rfl, DPut.k (k := Sum.inr z) hd9 (small (by omega)), _, _, rfl, _, rfl, _, rfl, fl, _, rfl, DPut.k (k := Sum.inr z) (by rw [upd_ne gh.dfl.symm]; exact hf9) (small (by omega)), rfl, ?_⟩
      refine ⟨?_, ?_, ⟨_, In4.put0 gh J9 hp9 hk9 hfp9 zk zt ztS zt' (sr9.fr (ok := fun _ => True) (Fr.same s9) trivial) (by omega) ?_ hsq ?_ hp1 p1d p1f, by rw [List.length_append]; show fs.length + 1 ≤ m + 1; omega⟩, ?_, _, _, _, rfl⟩
      · exact ext_updO (ext_updO e10 gdl) gfl
      · exact tabs_updO (tabs_updO t10 hd9 (.inr ⟨_, rfl⟩)) (by rw [upd_ne gh.dfl.symm]; exact hf9) (.inr ⟨_, rfl⟩)
      · refine ((hv.to (KeepT.mono fun x k _ => ?_)).to (KeepT.same s9)).upTo (by decide)
        obtain ⟨kv1, _, h1, _⟩ := I8.d
        obtain ⟨kv2, h2, _⟩ := I8.f
        exact ⟨⟨sr8.nn k, ne_of_none' h1 k, ne_of_none' h2 k⟩, fun z hz e => I8.al z hz (by rw [← e]; exact k)⟩
      · cases t <;> first | (show 1 ≤ 700000; decide) | cases hsq
      · rw [upd_ne okl0.2.2, upd_ne okl0.2.1]; exact k9
    · refine ⟨_, rfl, rfl, _, rfl, ite2 (fun hw1 => ?_) (fun hw1 => ?_)⟩
      rotate_left
      · exact ⟨e8, t8, ⟨fs, I8.fr gh Fr.refl sr8 (by omega) ztS, by omega⟩, hl8, _, _, _, rfl⟩
      obtain ⟨⟨kvs, lib, hd8, hp8, hk8⟩, ⟨fkvs, hf8, hfp8⟩⟩ := And.intro I8.d I8.f
      have lfk : fkvs.length ≤ 4 := by rw [paired_len hfp8]; omega
      have nz : z ∉ fs.map (·.1) := fun h => zt (I8.fd z h).1
      have kvd8 : (kvs.map (·.1)).Nodup := by
        rw [keys_of (fun _ _ r => r.key) hp8, hk8]
        exact List.Pairwise.map _ (fun _ _ h e => h (Sum.inr.inj e)) gh.nd
      obtain ⟨v, t, hv8, hml, M8⟩ := paired_val (fun _ _ r => r.key) hp8 (z := z) (by rw [hk8]; exact zk)
      have hval : ∀ kv ∈ kvs, kv.1 = Sum.inr z → kv.2 = v := fun kv hkv e => by
        obtain ⟨i, hi⟩ := List.getElem?_of_mem hkv
        obtain ⟨k1, v1⟩ := kv
        dsimp only at e
        subst e
        have := valV_at kvd8 hi
        rw [hv8] at this
        exact (Option.some.inj this).symm
      obtain ⟨_, rs, ets, hro, hrl, sz6⟩ := M8.st.resolve_right fun ⟨y, h, _⟩ => nz (List.mem_map.mpr ⟨_, h, rfl⟩)
      dsimp only at ets
      subst ets
      obtain ⟨ev, xs, ts, hL8, et8, hx8, lts⟩ := M8.val.resolve_right fun h => (by cases h.2)
      dsimp only at ev et8 hL8
      injection et8 with et8
      subst ev et8
      have dg : DGet H8 dl (.str z) (some (.ref (L z))) := by rw [← hv8]; exact DGet.k (k := Sum.inr z) hd8
      have lxs : xs.length = rs.length := by rw [paired_len hx8, List.length_map]
      refine ⟨_, rfl, _, rfl, _, rfl, dl, _, rfl, dg, ?_⟩
      dsimp only [tNil]
      refine ⟨L z, xs, rfl, .inl (SqL.of hL8), _, _, rfl, rfl, ?_⟩
      refine ⟨a, _, _, rfl, sr8, by omega, by omega, by omega, fun H9 jj f9 sr9 j0 j1 => ?_⟩
      obtain ⟨j, rfl⟩ : ∃ m : Nat, jj = (m : Nat) := ⟨jj.toNat, by omega⟩
      have t9 := tabs_fr t8 sr8 f9
      have e9 : LamX.ExtN G0 H9 := ext_fr e8 f9 na
      have I9 := I8.fr (N' := 200010 + 110 * ((m + 1 : Nat) : Int)) gh f9 sr9 (by omega) (fun _ z => z)
      have hl9 := f9 _ _ okl0.1 hl8
      have hd9 := f9 _ _ adl.symm hd8
      have hf9 := f9 _ _ gh.afl.symm hf8
      have hL9 := f9 _ _ (gh.lo z zk).1 hL8
      have dg9 : DGet H9 dl (.str z) (some (.ref (L z))) := by rw [← hv8]; exact DGet.k (k := Sum.inr z) hd9
      refine ⟨_, rfl, _, rfl, dl, _, rfl, dg9, .inl ⟨rfl, _, SqL.of hL9⟩, _, rfl, (by show 2 ≤ sizeLine; decide), fun p np => ?_⟩
      have s9 : Same H9 (upd H9 p (.tup [.str "say", .str "no"])) := Same.new np
      have hpt : (upd H9 p (.tup [.str "say", .str "no"])) p = some (.tup [.str "say", .str "no"]) := upd_same
      have okp : okT a dl fl ks L p := ⟨⟨sr9.nn np, ne_of_none' hd9 np, ne_of_none' hf9 np⟩, fun z hz e => I9.al z hz (by rw [← e]; exact np)⟩
      have hx9 : Paired (ThAt (okT a dl fl ks L) H9 9) xs (rs.map (toT 3)) := paired_imp hx8 fun _ _ q => q.to (KeepT.fr (f9.mono fun y k => k.1.1) fun _ k => k)
      have hp9 : Paired (MI (okT a dl fl ks L) L H9 fs) kvs lib := paired_impM hp8 fun kv m hm r => r.to (KeepT.fr (f9.mono fun x k => k.1.1) fun _ k => k) (fun xs e => f9 _ _ (gh.lo _ (by rw [← hk8]; exact List.mem_map_of_mem hm)).1 e) ⟨fun z => z, fun x hx => hx⟩
      have hfp9 : Paired (FPair H9) fkvs fs := paired_imp hfp8 fun kv m r => ⟨r.1, r.2.to fun b xs e => f9 _ _ (fun z => sr8.apt0 (o := .tup xs) (by rw [← z]; exact e) fun _ z => nomatch z) e⟩
      generalize upd H9 p (.tup [.str "say", .str "no"]) = K9 at *
      have J9 := I9.same gh s9
      have srK : Src K9 a _ := sr9.fr (ok := fun _ => True) (Fr.same s9) trivial
      have hxK : Paired (ThAt (okT a dl fl ks L) K9 9) xs (rs.map (toT 3)) := paired_imp hx9 fun _ _ q => q.to (KeepT.same s9)
      have hpK : Paired (MI (okT a dl fl ks L) L K9 fs) kvs lib := paired_imp hp9 fun kv m r => r.to (KeepT.same s9) (fun xs e => s9 _ _ e) ⟨fun z => z, fun x hx => hx⟩
      have hfpK : Paired (FPair K9) fkvs fs := paired_imp hfp9 fun kv m r => ⟨r.1, r.2.to fun b xs e => s9 _ _ e⟩
      have dK := s9 _ _ hd9
      have fK := s9 _ _ hf9
      have LK := s9 _ _ hL9
      have lK := s9 _ _ hl9
      have tK := t9.ext s9
      have eK := ext_same0 e9 s9
      have Lz := gh.lo z zk
      dsimp only [tNil]
      refine ⟨L z, xs, (j : Int), .ref p, rfl, rfl, LK, small (by omega), by omega, by omega, ?_⟩
      rw [Int.toNat_natCast]
      refine ⟨_, rfl, (by show 1 ≤ sizeLine; decide), fun p2 np2 => ?_⟩
      have sb : Same (upd K9 (L z) (.lst (xs.take j ++ [.ref p] ++ xs.drop j))) (upd (upd K9 (L z) (.lst (xs.take j ++ [.ref p] ++ xs.drop j))) p2 (.tup [.int (j : Int)])) := Same.new np2
      have hp2 : (upd (upd K9 (L z) (.lst (xs.take j ++ [.ref p] ++ xs.drop j))) p2 (.tup [.int (j : Int)])) p2 = some (.tup [.int (j : Int)]) := upd_same
      have fK2 : (upd K9 (L z) (.lst (xs.take j ++ [.ref p] ++ xs.drop j))) fl = some (.dK fkvs) := by rw [upd_ne Lz.2.2.symm]; exact fK
      have fb := sb _ _ fK2
      have lb : (upd (upd K9 (L z) (.lst (xs.take j ++ [.ref p] ++ xs.drop j))) p2 (.tup [.int (j : Int)])) l0 = some (.lst (ys.map V.str)) := sb _ _ (by rw [upd_ne (nl0L z zk)]; exact lK)
      have gL : ∀ o, G0 (L z) = some o → (∀ ps, o ≠ .tbl ps) → False := fun o e n => by have h := L2n z zk; rw [e2 _ _ e n] at h; cases h
      have tb9 : LamX.Tabs [(Pt, qn04)] (upd (upd K9 (L z) (.lst (xs.take j ++ [.ref p] ++ xs.drop j))) p2 (.tup [.int (j : Int)])) := (tabs_updO tK LK (.inl ⟨_, rfl⟩)).ext sb
      have eb9 : LamX.ExtN G0 (upd (upd K9 (L z) (.lst (xs.take j ++ [.ref p] ++ xs.drop j))) p2 (.tup [.int (j : Int)])) := ext_same0 (ext_updO eK gL) sb
      generalize upd (upd K9 (L z) (.lst (xs.take j ++ [.ref p] ++ xs.drop j))) p2 (.tup [.int (j : Int)]) = Hb at *
      refine ⟨_, rfl, _, rfl, fl, _, rfl, DPut.k (k := Sum.inr z) fb (small (by omega)), ?_⟩
      refine ⟨ext_updO eb9 gfl, tabs_updO tb9 fb (.inr ⟨_, rfl⟩), ⟨_, In4.put1 gh J9 dK fK hpK hk8 hfpK zk zt ztS zt' srK (by omega) LK hxK hro hrl (by omega) ?_ hval hpt okp sb hp2 (ne_of hp2 fb (fun z => nomatch z)), by rw [List.length_append]; show fs.length + 1 ≤ m + 1; omega⟩, ?_, _, _, _, rfl⟩
      · exact sz6
      · rw [upd_ne okl0.2.2]; exact lb
  rintro σ H6 ⟨e6, t6, ⟨fs, I6, lfs⟩, hl6, u7, u8, u9, rfl⟩
  rw [show (ys.map V.str).length = ys.length from List.length_map _, List.take_length] at I6
  have lfs4 : fs.length ≤ 4 := by rw [List.length_map] at lfs; have := gh.few; omega
  clear hl6 hl0 lfs I3 nl0L okl0
  obtain ⟨n6, sr6, hn6⟩ := I6.src
  obtain ⟨⟨kvs, lib, hd6, hp6, hk6⟩, ⟨fkvs, hf6, hfp6⟩⟩ := And.intro I6.d I6.f
  have lib4 : lib.length ≤ 4 := by have := gh.few; rw [← hk6, List.length_map] at this; exact this
  have ysl4 : ys.length ≤ 4 := by rw [ysl]; exact gh.few
  have kslen : (ys.map V.str).length ≤ 4 := by rw [List.length_map, ysl]; exact gh.few
  have hl6 : LibTAt (okH a dl fl) H6 10 kvs lib := paired_impM hp6 fun kv m hm r => ⟨r.key, r.th (gh.lo _ (by rw [← hk6]; exact List.mem_map_of_mem hm)) fun x k => k.1⟩
  refine ⟨_, rfl, _, rfl, a, dl, n6, kvs, lib, okH a dl fl, rfl, sr6, by omega, hd6, hl6, lib4, by rw [hk6]; exact gh.nd, fun m hm => ?_, (fun k => k.1 rfl), fun H7 p kvsH libH n7 f7 sr7 n70 n71 np hp7 hlH pH => ?_⟩
  · have hmk : m.1 ∈ ks := by rw [← hk6]; exact List.mem_map_of_mem hm
    obtain ⟨i, hi⟩ := List.getElem?_of_mem hm
    obtain ⟨kv, hkv, r⟩ := paired_getR hp6 hi
    exact ⟨gh.wd _ hmk, r.sz⟩
  have t7 := tabs_fr t6 sr6 f7
  have e7 : LamX.ExtN G0 H7 := ext_fr e6 f7 na
  have I7 := I6.fr (N' := n7) gh f7 sr7 (Int.le_refl _) (fun _ z => z)
  have hd7 := f7 _ _ adl.symm hd6
  have hf7 := f7 _ _ gh.afl.symm hf6
  have hfp7 : Paired (FPair H7) fkvs fs := paired_imp hfp6 fun kv m r => ⟨r.1, r.2.to fun b xs e => f7 _ _ (fun z => sr6.apt0 (o := .tup xs) (by rw [← z]; exact e) fun _ z => nomatch z) e⟩
  have lbad : ∀ m ∈ lib, (m.1 ∉ fs.map (·.1) ∧ ∃ rs : List Row, m.2 = .sq (rs.map (toT 3)) ∧ (∀ r ∈ rs, RowOk 3 false r) ∧ rs.length ≤ 24) ∨ ∃ y, (m.1, y) ∈ fs ∧ badM m = some (.str m.1, y) := fun m hm => by
    obtain ⟨i, hi⟩ := List.getElem?_of_mem hm
    obtain ⟨kv, hkv, r⟩ := paired_getR hp6 hi
    rcases r.st with ⟨h1, rs, h2, h3, h4, _⟩ | h
    · exact .inl ⟨h1, rs, h2, h3, h4⟩
    · exact .inr h
  have keysH : kvs.map (·.1) = ks.map Sum.inr := by rw [keys_of (fun _ _ r => r.key) hp6, hk6]
  clear hp6 hl6 hfp6 hd6 hf6 sr6 f7 I6 e6 t6
  -- what is due
  refine ⟨_, rfl, dl, kvs, ks, rfl, .inl hd7, keysH, fun ys1 l1 hperm1 hsort1 nl1 => ⟨(by show 2 ≤ sizeLine; decide), fun t1 nt1 => ?_⟩⟩
  have s78 : Same H7 (upd (upd H7 l1 (.lst (ys1.map V.str))) t1 (.tup [.str "told", .ref l1])) := Same.trans (Same.new nl1) (Same.new nt1)
  have hl18 : (upd (upd H7 l1 (.lst (ys1.map V.str))) t1 (.tup [.str "told", .ref l1])) l1 = some (.lst (ys1.map V.str)) := (Same.new nt1) _ _ upd_same
  have ht18 : (upd (upd H7 l1 (.lst (ys1.map V.str))) t1 (.tup [.str "told", .ref l1])) t1 = some (.tup [.str "told", .ref l1]) := upd_same
  generalize upd (upd H7 l1 (.lst (ys1.map V.str))) t1 (.tup [.str "told", .ref l1]) = H8 at *
  have ys1l : ys1.length ≤ 4 := by rw [hperm1.length_eq]; exact gh.few
  have ys1w : ∀ u ∈ ys1, isW u = true := fun u hu => gh.wd u (hperm1.mem_iff.mp hu)
  have hdue : DtAt H8 11 (.ref t1) (.sq false [.at (.str "told"), strT ys1]) := ⟨t1, _, rfl, ht18, by show 2 ≤ 16000000; decide, .cons ⟨rfl, rfl⟩ (.cons (str_dtM hl18 (by omega)) .nil)⟩
  refine ⟨fun σ H' => Same H7 H' ∧ ∃ td vd, DtAt H' 11 vd td ∧ ((fs = [] ∧ td = .sq false [.at (.str "told"), strT ys1]) ∨ (fs ≠ [] ∧ ∃ z0 y0, td = badVT (.str z0) y0 ∧ WrongAs lib (.str z0) y0)) ∧ σ = [some (.ref sa), some (.int (0 + i)), some (.ref a), w3, some (.ref p), some (.ref dl), some (.ref fl), u7, u8, u9, some vd, v11, none], ?_, ?_⟩
  · refine ⟨_, rfl, fun e0 ne0 => ?_⟩
    have s89 := Same.new (o := .dK []) ne0
    have he0 : (upd H8 e0 (.dK [])) e0 = some (.dK []) := upd_same
    generalize upd H8 e0 (.dK []) = H9 at *
    have s79 := Same.trans s78 s89
    refine ⟨fl, e0, fkvs, rfl, rfl, s79 _ _ hf7, he0, _, rfl, ?_⟩
    cases fs with
    | nil =>
      cases hfp7
      exact iteF ⟨s79, _, _, hdue.to fun a kd xs e => s89 _ _ e, .inl ⟨rfl, rfl⟩, rfl⟩
    | cons f0 fs' =>
      have lf : fkvs.length = (f0 :: fs').length := paired_len hfp7
      have c0 : (!(fkvs.length == 0)) = true := by rw [lf]; rfl
      rw [c0]
      refine iteT ?_
      have keysF : fkvs.map (·.1) = ((f0 :: fs').map (·.1)).map Sum.inr := keys_of (fun _ _ r => r.1) hfp7
      refine ⟨_, rfl, fl, fkvs, (f0 :: fs').map (·.1), rfl, .inl (s79 _ _ hf7), keysF, fun zs l2 hperm2 hsort2 nl2 => ?_⟩
      have s910 : Same H9 (upd H9 l2 (.lst (zs.map V.str))) := Same.new nl2
      have hl210 : (upd H9 l2 (.lst (zs.map V.str))) l2 = some (.lst (zs.map V.str)) := upd_same
      generalize upd H9 l2 (.lst (zs.map V.str)) = H10 at *
      have s710 := Same.trans s79 s910
      obtain ⟨z0, zs', rfl⟩ : ∃ z0 zs', zs = z0 :: zs' := by
        cases zs with
        | nil => exact absurd hperm2.length_eq (by simp)
        | cons z0 zs' => exact ⟨z0, zs', rfl⟩
      have at0 : atI ((z0 :: zs').map V.str) 0 = some (V.str z0) := by
        have h := atI_nat (xs := (z0 :: zs').map V.str) (j := 0) (v := V.str z0) rfl
        exact h
      refine ⟨l2, _, 0, .str z0, rfl, rfl, SqL.of hl210, at0, ?_⟩
      refine ⟨_, rfl, _, rfl, fl, fkvs, (f0 :: fs').map (·.1), rfl, .inl (s710 _ _ hf7), keysF, fun zs2 l3 hperm3 hsort3 nl3 => ?_⟩
      obtain rfl : zs2 = z0 :: zs' := strs_uniq (hperm3.trans hperm2.symm) hsort3 hsort2 (hperm3.nodup_iff.mpr I7.fn)
      have s1011 : Same H10 (upd H10 l3 (.lst ((z0 :: zs').map V.str))) := Same.new nl3
      have hl311 : (upd H10 l3 (.lst ((z0 :: zs').map V.str))) l3 = some (.lst ((z0 :: zs').map V.str)) := upd_same
      generalize upd H10 l3 (.lst ((z0 :: zs').map V.str)) = H11 at *
      have s711 := Same.trans s710 s1011
      have hz0 : z0 ∈ (f0 :: fs').map (·.1) := hperm2.mem_iff.mp (by simp)
      obtain ⟨vy, y0, hvy, hmy, hpy⟩ := paired_val (fun _ _ r => r.1) hfp7 hz0
      have dg : DGet H11 fl (.str z0) (some vy) := by rw [← hvy]; exact DGet.k (k := Sum.inr z0) (s711 _ _ hf7)
      refine ⟨l3, _, 0, .str z0, rfl, rfl, SqL.of hl311, at0, fl, vy, rfl, dg, (by show 3 ≤ sizeLine; decide), fun t2 nt2 => ?_⟩
      have st2 : Same H11 (upd H11 t2 (.tup [.str "program", .str z0, vy])) := Same.new nt2
      have s712 := Same.trans s711 st2
      have ly0 : y0.length ≤ 1 := I7.fy _ hmy
      refine ⟨s712, badVT (.str z0) y0, .ref t2, ⟨t2, _, rfl, upd_same, by show 3 ≤ 16000000; decide, .cons ⟨rfl, rfl⟩ (.cons ⟨rfl, rfl⟩ (.cons (path_dt (m := 9) (hpy.2.to fun b xs e => s712 _ _ e) (by omega)) .nil))⟩, .inr ⟨by simp, z0, y0, rfl, ?_⟩, rfl⟩
      refine least_wrong (ys := zs') (by rw [hk6]; exact gh.nd) (fun m hm => gh.wd _ (by rw [← hk6]; exact List.mem_map_of_mem hm)) (fun m hm => ?_) (fun z hz => by rw [hk6]; exact (I7.fd z hz).2) I7.fn (fun m hm hmf => ?_) hperm2 hsort2 hmy
      · rcases lbad m hm with ⟨_, rs, e1, e2, _⟩ | h
        · obtain ⟨m1, m2⟩ := m
          dsimp only at e1
          subst e1
          exact .inl (row_badM (m := (m1, rs)) e2)
        · exact .inr h
      · rcases lbad m hm with ⟨h1, _⟩ | ⟨y, _, e⟩
        · exact absurd hmf h1
        · rw [e]; exact fun z => nomatch z
  rintro σ H9 ⟨s79, td, vd, hvd, hcase, rfl⟩
  have tb9 := t7.ext s79
  have e9 : LamX.ExtN G0 H9 := ext_same0 e7 s79
  have hp9 := s79 _ _ hp7
  have lH : libH.length = lib.length := pH.length_eq
  have ndH : (libH.map (·.1)).Nodup := (pH.map _).nodup_iff.mpr (by rw [hk6]; exact gh.nd)
  obtain ⟨okP, hokP⟩ : ∃ okP : Addr → Prop, okP = fun x => newO (okH a dl fl) H6 x ∧ x ≠ p := ⟨_, rfl⟩
  rw [← hokP] at hlH
  have okPp : ∀ x, okP x → x ≠ p := fun x k => by rw [hokP] at k; exact k.2
  have ndK : (kvsH.map (·.1)).Nodup := by rw [keys_of (fun _ _ r => r.1) hlH]; exact List.Pairwise.map _ (fun _ _ h e => h (Sum.inr.inj e)) ndH
  have hl9 : LibTAt okP H9 10 kvsH libH := paired_imp hlH fun _ _ r => ⟨r.1, r.2.to (KeepT.same s79)⟩
  clear hokP hlH hp7 s79
  have lposH : 0 < libH.length := by
    rw [lH, ← List.length_map (f := fun m : Str × Th => m.1), hk6, ksl]; exact lpos
  dsimp only [gName, tSeq, tAsg]
  refine before_in4 (K := K) hp9 hl9 okPp ndH (by omega) fun H10 b kvs2 s910 nb hb10 hk2 => ?_
  have tb10 := tb9.ext s910
  refine ⟨2, rfl, by decide, by decide, ?_⟩
  refine for_it (walk_range (lo := 0) (n := (2 : Int).toNat)) (fun m σ H' => LamX.ExtN H10 H' ∧ LamX.Tabs [(Pt, qn04)] H' ∧ ∃ v3, σ = [some (.ref sa), some (.int (0 + i)), some (.ref a), v3, some (.ref p), some (.ref dl), some (.ref fl), u7, u8, u9, some vd, some (.ref b), none])
    ⟨LamX.ExtN.refl _, tb10, _, rfl⟩ (fun _ _ _ _ _ => trivial) ?_ ?_
  · rintro m x0 σ H11 H12 hm ⟨e11, t11, v3, rfl⟩ ⟨rfl, rfl⟩
    have e912 : LamX.ExtN H9 H12 := ext_ext (extN_same s910) e11
    dsimp only [gName]
    rcases hcase with ⟨rfl, rfl⟩ | ⟨hne, z0, y0, rfl, hW⟩
    · -- a right library
      obtain ⟨libR, rfl, lrR⟩ : ∃ libR : Lib, lib = libR.map (fun m => (m.1, Th.sq (m.2.map (toT 3)))) ∧ ∀ m ∈ libR, (∀ r ∈ m.2, RowOk 3 false r) ∧ m.2.length ≤ 24 := rows_of fun m hm => by
        rcases lbad m hm with ⟨_, rs, h1, h2, h3⟩ | ⟨y, hy, _⟩
        · exact ⟨rs, h1, h2, h3⟩
        · cases hy
      obtain ⟨lib1, rfl, p1⟩ := perm_map_inv pH
      have lr1 : LibR lib1 := by
        have ek1 : lib1.map (·.1) = (lib1.map fun m => (m.1, Th.sq (m.2.map (toT 3)))).map (·.1) := by rw [List.map_map]; rfl
        refine ⟨by rw [List.length_map] at lH; rw [List.length_map] at lib4 lH; omega, by rw [List.length_map] at lposH; exact lposH, by rw [ek1]; exact ndH, fun m hm => gh.wd _ ?_, fun m hm => (lrR m (p1.mem_iff.mp hm)).2, fun m hm => (lrR m (p1.mem_iff.mp hm)).1⟩
        rw [← hk6, List.map_map]
        exact List.mem_map_of_mem (f := fun m : Str × List Row => m.1) (p1.mem_iff.mp hm)
      refine tried_good (t := strT ys1) t11 (fun H13 R E e13 xb => ?_) fun H13 p9 e13 t13 hp9' => ?_
      · refine ⟨_, rfl, fun x dx nx ndx xdx => ?_⟩
        have sI : Same H13 (upd (upd H13 dx (.own x)) x (.ins C dx [])) := fun b o e => by
          rw [upd_ne (ne_of_none e nx), upd_ne (ne_of_none e ndx)]; exact e
        have hI : (upd (upd H13 dx (.own x)) x (.ins C dx [])) x = some (.ins C dx []) := upd_same
        generalize upd (upd H13 dx (.own x)) x _ = H14 at *
        have e914 : LamX.ExtN H9 H14 := ext_same0 (ext_ext e912 e13) sI
        have hlib14 : LibAt (fun y => y ≠ x) anyK H14 kvsH lib1 := (libAt_of hl9 fun m hm => lr1.rows m hm).to fun y kd ws k e => by
          have e13' := ext_ext e912 e13 _ _ e mkO_nt
          exact ⟨ne_of_none e13' nx, sI _ _ e13'⟩
        refine .inl ⟨x, dx, p, kvsH, lib1, fun y => y ≠ x, anyK, rfl, hI, e914 _ _ hp9 (fun _ z => nomatch z), hlib14, (fun k => k rfl), lr1, fun H15 rd sl lib4 f15 prog perm4 sort4 nrd nsl => ⟨rfl, ?_⟩⟩
        have s1315 : Same H13 H15 := fun b o e => f15 _ _ (ne_of_none e nx) (sI _ _ e)
        obtain ⟨kvs4, hrd4, hlib4⟩ := prog.rows
        refine ⟨x, dx, _, rfl, prog.ins, lk_modulesM _ _, x, dx, rd, .ref sl, kvs4, rfl, prog.ins, hrd4, fun l nl => ?_⟩
        have s6 : Same H15 (upd H15 l (.lst (kvs4.map fun kv => kV kv.1))) := Same.new nl
        have hl6 : (upd H15 l (.lst (kvs4.map fun kv => kV kv.1))) l = some (.lst (kvs4.map fun kv => kV kv.1)) := upd_same
        generalize upd H15 l (.lst (kvs4.map fun kv => kV kv.1)) = H16 at *
        have pk : ys1.Perm (lib1.map (·.1)) := by
          refine hperm1.trans ?_
          rw [← hk6]
          have := (p1.map (·.1)).symm
          have e1 : (libR.map fun m => (m.1, Th.sq (m.2.map (toT 3)))).map (·.1) = libR.map (·.1) := by rw [List.map_map]; rfl
          rw [e1]
          exact this
        have nd1 : (lib1.map (·.1)).Nodup := lr1.nd
        have ek := keys_sorted perm4 sort4 pk hsort1 nd1
        rw [keys_strs hlib4, ek] at hl6
        exact xb _ _ (Same.trans s1315 s6) (str_dtM hl6 (by omega))
      · refine ⟨_, rfl, _, _, _, rfl, hp9', hvd.to (fun a kd xs e => e13 _ _ (e912 _ _ e mkO_nt) mkO_nt), fun H14 s14 => ⟨true, rfl, iteF ?_⟩⟩
        exact ⟨ext_ext e11 (ext_same0 e13 s14), t13.ext s14, _, rfl⟩
    · -- a wrong one
      have hWH : WrongAs libH (.str z0) y0 := by
        obtain ⟨h1, h2, libS, h3, h4, h5⟩ := hW
        exact ⟨ndH, fun m hm => h2 m (pH.mem_iff.mp hm), libS, h3.trans pH.symm, h4, h5⟩
      have ly0 : y0.length ≤ 1000 := by
        obtain ⟨_, _, _, e⟩ := hW.ex
        have := (wrongL_len e).1
        omega
      refine tried_bad (u := .str z0) (y := y0) rfl ly0 t11 (fun H13 R E e13 xb => ?_) fun H13 p9 e13 t13 hp9' => ?_
      · refine ⟨_, rfl, fun x dx nx ndx xdx => ?_⟩
        have sI : Same H13 (upd (upd H13 dx (.own x)) x (.ins C dx [])) := fun b o e => by
          rw [upd_ne (ne_of_none e nx), upd_ne (ne_of_none e ndx)]; exact e
        have e913 : LamX.ExtN H9 H13 := ext_ext e912 e13
        exact .inr (.inl ⟨x, dx, p, kvsH, libH, okP, .str z0, y0, rfl, upd_same, sI _ _ (e913 _ _ hp9 (fun _ z => nomatch z)), paired_imp hl9 fun _ _ r => ⟨r.1, r.2.to fun y o k n e => ⟨k, sI _ _ (e913 _ _ e n)⟩⟩, by omega, by omega, hWH, fun H1 d v s hv nd => xb H1 d v (Same.trans sI s) hv nd⟩)
      · refine ⟨_, rfl, _, _, _, rfl, hp9', hvd.to (fun a kd xs e => e13 _ _ (e912 _ _ e mkO_nt) mkO_nt), fun H14 s14 => ⟨true, rfl, iteF ?_⟩⟩
        exact ⟨ext_ext e11 (ext_same0 e13 s14), t13.ext s14, _, rfl⟩
  rintro σ H11 ⟨e11, t11, v3, rfl⟩
  have e911 : LamX.ExtN H9 H11 := ext_ext (extN_same s910) e11
  dsimp only [tSeq, tIfS, tTest, tOp]
  have hl11 : LibTAt okP H11 10 kvsH libH := paired_imp hl9 fun _ _ r => ⟨r.1, r.2.to fun y o k n e => ⟨k, e911 _ _ e n⟩⟩
  refine before_in4 (K := K) (e911 _ _ hp9 (fun _ z => nomatch z)) hl11 okPp ndH (by omega) fun H12 b2 kvs3 s1112 nb2 hb12 hk3 => ?_
  have e1012 : LamX.ExtN H10 H12 := ext_same0 e11 s1112
  refine ⟨_, rfl, ?_⟩
  refine neD_run (kvs := kvsH) (e1012 _ _ hb10 (fun _ z => nomatch z)) hb12 ndK (paired_imp hk2 fun _ _ r => ⟨r.1, r.2.to fun b o k n e => ⟨k, e1012 _ _ e n⟩⟩) hk3 ?_
  refine ⟨false, rfl, iteF ?_⟩
  exact ⟨ext_ext eH (ext_ext e9 (ext_same0 e911 s1112)), t11.ext s1112, _, _, _, _, _, _, _, _, _, _, _, rfl⟩
end
end Ft
set_option Elab.async false
set_option linter.all false
set_option maxRecDepth 100000
set_option maxHeartbeats 4000000
set_option Elab.async false
set_option linter.all false
set_option maxRecDepth 100000
set_option maxHeartbeats 4000000
namespace Ft
open PySem PySem.Spec L2 PySem.W
section
variable {prog : PySem.Program} {w : World} {A : Around} {E : Value → Shared → Prop} {s : Shared} {K : Frag} {x C : Addr} {ox : Obj} {od : Option Obj} {name : Str}
/-- a class that takes == and != from object -/
structure PlainEq (K : Frag) (C : Addr) : Prop where
  eq : findIn K (.ref C) "__eq__" = some (some (.builtin "object.__eq__"))
  ne : findIn K (.ref C) "__ne__" = some (some (.builtin "object.__ne__"))
  sub : subIn K (.ref C) (.type "object") = some true
end
end Ft
set_option Elab.async false
set_option linter.all false
set_option maxRecDepth 100000
set_option maxHeartbeats 0
namespace Ft
open PySem L2
def dX (x : Str) (st : Stmt) : He.DefD := ⟨(x, none), x, x, defArgs st, defBody st, defScope st, [], []⟩
def dM (c m q : Str) (st : Stmt) : He.DefD := ⟨(c, some m), m, q, defArgs st, defBody st, defScope st, [], []⟩
def hFn : List He.DefD := [dX "_law_source" sLSource,
  dX "_law_draw" sLDraw,
  dX "_law_pick" sLPick,
  dX "_law_same" sLSame,
  dX "_law_word" sLWord,
  dX "_law_number" sLNumber,
  dX "_law_plain_row" sLPlainRow,
  dX "_law_row" sLRow,
  dX "_law_block" sLBlock,
  dX "_law_library" sLLibrary,
  dX "_law_given" sLGiven,
  dX "_law_tupled" sLTupled,
  dX "_law_handed" sLHanded,
  dX "_law_any" sLAny,
  dX "_law_tried" sLTried,
  dX "_law_no_library" sLNoLibrary,
  dX "_law_no_rows" sLNoRows,
  dX "law" sLaw,
  dX "is_integer" sIsInteger,
  dX "is_word" sIsWord,
  dX "is_field" sIsField,
  dX "is_row" sIsRow,
  dX "blocks_of" sBlocksOf,
  dX "first_wrong" sFirstWrong,
  dX "check_modules" sCheckModules,
  dX "frozen" sFrozen,
  dX "walked" sWalked,
  dM "Program" "__init__" "Program.__init__" sProgramInit,
  dM "Program" "modules" "Program.modules" sProgramModules,
  dM "BadProgram" "__init__" "BadProgram.__init__" sBadProgramInit,
  dM "BadText" "__init__" "BadText.__init__" sBadTextInit,
  dM "BadWord" "__init__" "BadWord.__init__" sBadWordInit]
def hFa : List He.Fa := [.glo "_law_source",
  .glo "_law_draw",
  .glo "_law_pick",
  .glo "_law_same",
  .glo "_law_word",
  .glo "_law_number",
  .glo "_law_plain_row",
  .glo "_law_row",
  .glo "_law_block",
  .glo "_law_library",
  .glo "_law_given",
  .glo "_law_tupled",
  .glo "_law_handed",
  .glo "_law_any",
  .glo "_law_tried",
  .glo "_law_no_library",
  .glo "_law_no_rows",
  .glo "law",
  .glo "is_integer",
  .glo "is_word",
  .glo "is_field",
  .glo "is_row",
  .glo "blocks_of",
  .glo "first_wrong",
  .glo "check_modules",
  .glo "frozen",
  .glo "walked",
  .free "int",
  .free "len",
  .free "range",
  .free "isinstance",
  .free "tuple",
  .free "list",
  .free "dict",
  .free "str",
  .free "bool",
  .free "sorted",
  .free "zip",
  .free "enumerate",
  .free "all",
  .free "max",
  .free "min",
  .free "sum",
  .free "any",
  .glo "Program",
  .cls "Program",
  .noat "Program" "rows_of",
  .noat "Program" "spots",
  .mkr "Program",
  .meth "Program" "modules",
  .glo "FIELDS",
  .str "LETTERS" letters,
  .glo "BadProgram",
  .noat "BadProgram" "module",
  .noat "BadProgram" "path",
  .glo "BadText",
  .noat "BadText" "line",
  .glo "BadWord",
  .noat "BadWord" "word",
  .exm "BadProgram" "BadProgram" true,
  .exm "BadWord" "BadProgram" false,
  .exm "BadWord" "BadText" false,
  .exm "BadWord" "BadWord" true]
def hTs : List He.Tab := [(fun K => He.ga K "FIELDS", fieldsT.map (·.1))]
def hDefs0 : List Str := ["_law_source", "_law_draw", "_law_pick", "_law_same", "_law_word", "_law_number", "_law_plain_row", "_law_row", "_law_block", "_law_library", "_law_given", "_law_tupled"]
def hDefs1 : List Str := ["_law_handed", "_law_any", "_law_tried", "_law_no_library", "_law_no_rows", "law", "is_integer", "is_word", "is_field", "is_row", "blocks_of", "first_wrong"]
def hDefs2 : List Str := ["check_modules", "frozen", "walked"]
def hDefs : List Str := hDefs0 ++ hDefs1 ++ hDefs2
def hCls : List Str := ["Program", "TouchError", "BadProgram", "BadText", "BadWord"]
def hMeths : List (Str × Str) := [("Program", "__init__"), ("Program", "modules"), ("BadProgram", "__init__"), ("BadText", "__init__"), ("BadWord", "__init__")]
def nm0 : List Str := ["_wall", "TouchError", "BadProgram", "BadText", "BadWord", "LETTERS", "is_integer", "is_word", "FIGURES", "STEP", "FIELDS", "is_field", "is_row", "blocks_of", "first_wrong", "check_modules", "frozen", "walked", "lines_of", "is_written", "number_of", "read_row", "stands_at", "read_rows", "read_modules", "Program", "_law_source", "_law_draw", "_law_pick", "_law_same"]
def nm1 : List Str := ["_law_word", "_law_number", "_law_plain_row", "_law_row", "_law_block", "_law_library", "_law_given", "_law_tupled", "_law_handed", "_law_any", "_law_tried", "_law_no_library", "_law_no_rows"]
def hNames : List Str := nm0 ++ nm1
def lawIx : Nat := 47
def topM : Nat := 20000
/-- the tuples of the table -/
def strsB : List Str → List Value → Bool
  | [], [] => true
  | z :: zs, .str y _ :: us => decide (y = z) && strsB zs us
  | _, _ => false
theorem strsB_ok : ∀ {zs : List Str} {us : List Value}, strsB zs us = true → Vals (zs.map V.str) us
  | [], [], _ => .nil
  | [], _ :: _, h => by cases h
  | _ :: _, [], h => by cases h
  | z :: zs, u :: us, h => by
    cases u with
    | str y t =>
      unfold strsB at h
      rw [Bool.and_eq_true] at h
      have e : y = z := of_decide_eq_true h.1
      subst e
      exact .cons ⟨t, rfl⟩ (strsB_ok h.2)
    | _ => cases h
def fldB (K : PySem.W.Frag) (p : Str × List Str) : Bool := match PySem.W.nsIn K (He.ga K "FIELDS") p.1 with
  | some (some (.ref a)) => (match K.lookup a with
    | some ⟨.type c, _, .seq its _, _⟩ => decide (c = "tuple") && (decide (its.size ≤ 100) && strsB p.2 its.toList)
    | _ => false)
  | _ => false
theorem fldB_ok {K : PySem.W.Frag} {p : Str × List Str} (h : fldB K p = true) : ∃ tA, PySem.W.nsIn K (He.ga K "FIELDS") p.1 = some (some (.ref tA)) ∧ ∀ H, SqT K H tA (p.2.map V.str) := by
  unfold fldB at h
  split at h
  · rename_i a e
    split at h
    · rename_i c od its n sl q
      rw [Bool.and_eq_true, Bool.and_eq_true] at h
      have ec : c = "tuple" := of_decide_eq_true h.1
      have ez : its.size ≤ 100 := of_decide_eq_true h.2.1
      subst ec
      exact ⟨a, e, fun H => .inr ⟨_, its, n, q, rfl, rfl, Nat.le_of_lt (small (by omega)), strsB_ok h.2.2⟩⟩
    · cases h
  · cases h
theorem no_key {w : World} {K : PySem.W.Frag} {a : Addr} {ks : List Str} (h : He.dicW K a = some (He.keysIn w.params ks)) {z : Str} (hz : z ∉ ks) : PySem.W.nsIn K a z = some none := by
  unfold He.dicW at h
  split at h
  · rename_i c es n sl q
    split at h
    · have h' := Option.some.inj h
      have all : ∀ e ∈ es.toList, ∃ x t, e.key = .str x t ∧ x ∈ ks := by
        have go : ∀ (l : List DictEntry) (ks : List Str), l.map He.keyOf = He.keysIn w.params ks → ∀ e ∈ l, ∃ x t, e.key = .str x t ∧ x ∈ ks := by
          intro l
          induction l with
          | nil => intro ks _ e he; cases he
          | cons d l ih =>
            intro ks h e he
            cases ks with
            | nil => cases h
            | cons k ks =>
              have h2 : He.keyOf d :: l.map He.keyOf = some (k, PyData.keyHash w.params k) :: He.keysIn w.params ks := h
              have h3 := List.cons.inj h2
              rcases List.mem_cons.mp he with e1 | he
              · rw [e1]
                have h4 := h3.1
                unfold He.keyOf at h4
                split at h4
                · rename_i x t qk
                  have h5 := Prod.mk.inj (Option.some.inj h4)
                  exact ⟨x, t, qk, by rw [h5.1]; simp⟩
                · cases h4
              · obtain ⟨x, t, h5, h6⟩ := ih ks h3.2 e he
                exact ⟨x, t, h5, by simp [h6]⟩
        exact go _ _ h'
      unfold PySem.W.nsIn
      rw [q]
      have e1 : es.toList.find? (fun e => e.key.isStr z) = none := by
        rw [List.find?_eq_none]
        intro e he
        obtain ⟨x, t, hk, hx⟩ := all e he
        rw [hk]
        intro hs
        have : x = z := by
          have hs' : (x == z) = true := hs
          exact beq_iff_eq.mp hs'
        exact hz (by rw [← this]; exact hx)
      have e2 : es.toList.any (fun e => e.refKey) = false := by
        rw [List.any_eq_false]
        intro e he
        obtain ⟨x, t, hk, hx⟩ := all e he
        unfold DictEntry.refKey
        rw [hk]
        exact Bool.false_ne_true
      show (match es.toList.find? (fun e => e.key.isStr z) with
        | some e => some (some e.val)
        | none => if es.toList.any (fun e => e.refKey) then none else some none) = some none
      rw [e1]
      show (if es.toList.any (fun e => e.refKey) then none else some none) = some none
      rw [e2]
      rfl
    · cases h
  · cases h
def oexB (K : PySem.W.Frag) (C : Addr) : Bool := (match K.lookup C with
  | some ⟨.type "type", _, .cls cd, sl⟩ => (match cd.mro, sl.toList with
    | .ref C' :: bm, [_, _, _, _, some (.builtin n), _] => C' == C && n == "ValueError.__new__" && !cd.hasDel && cd.hasDict && PySem.HandSPX.refsVE bm
    | _, _ => false)
  | _ => false) && (He.eqO (PySem.W.findIn K (.ref C) "__setattr__") (some (some (.builtin "object.__setattr__"))) && (decide (PySem.W.subIn K (.ref C) (.type "BaseException") = some true) && (decide (PySem.W.typeIn K (.ref C) = some (.type "type")) && PySem.W.keepIn K (.ref C))))
theorem oexB_ok {K : PySem.W.Frag} {C : Addr} (h : oexB K C = true) : OexC K C := by
  obtain ⟨h1, h⟩ := Bool.and_eq_true_iff.mp h
  obtain ⟨h2, h⟩ := Bool.and_eq_true_iff.mp h
  obtain ⟨h3, h⟩ := Bool.and_eq_true_iff.mp h
  obtain ⟨h4, h5⟩ := Bool.and_eq_true_iff.mp h
  refine ⟨?_, He.eqO_ok h2, of_decide_eq_true h3, of_decide_eq_true h4, h5⟩
  split at h1
  · rename_i dd cd sl ho
    split at h1
    · rename_i C' bm k0 k1 k2 k3 n k5 hm hs
      simp only [Bool.and_eq_true, beq_iff_eq, Bool.not_eq_true'] at h1
      obtain ⟨⟨⟨⟨rfl, rfl⟩, hdel⟩, hdi⟩, hr⟩ := h1
      obtain ⟨nm, bs, mro, ns, qn, hd, sn, sub, ab, col, del⟩ := cd
      dsimp only at hm hdel hdi
      subst hm hdel hdi
      have hsl : sl = #[k0, k1, k2, k3, some (.builtin "ValueError.__new__"), k5] := by
        obtain ⟨l⟩ := sl
        simp only at hs
        rw [hs]
      subst hsl
      exact ⟨nm, qn, ns, bs, bm, sn, sub, ab, col, dd, k0, k1, k2, k3, k5, ho, hr⟩
    · cases h1
  · cases h1
def eqpB (K : PySem.W.Frag) (C : Addr) : Bool := He.eqO (PySem.W.findIn K (.ref C) "__eq__") (some (some (.builtin "object.__eq__"))) && (He.eqO (PySem.W.findIn K (.ref C) "__ne__") (some (some (.builtin "object.__ne__"))) && decide (PySem.W.subIn K (.ref C) (.type "object") = some true))
theorem eqpB_ok {K : PySem.W.Frag} {C : Addr} (h : eqpB K C = true) : PlainEq K C := by
  obtain ⟨h1, h⟩ := Bool.and_eq_true_iff.mp h
  obtain ⟨h2, h3⟩ := Bool.and_eq_true_iff.mp h
  exact ⟨He.eqO_ok h1, He.eqO_ok h2, of_decide_eq_true h3⟩
def errB (K : PySem.W.Frag) (x : Str) : Bool := oexB K (He.ga K x) && (xfB K (He.ga K x) && (He.eqO (PySem.W.findIn K (.ref (He.ga K x)) "__init__") (some (some (.ref (He.ma K (He.ga K x) "__init__")))) && decide (PySem.W.typeIn K (.ref (He.ma K (He.ga K x) "__init__")) = some (.type "function"))))
theorem errB_ok {K : PySem.W.Frag} {x : Str} (h : errB K x = true) : OexC K (He.ga K x) ∧ XfC K (He.ga K x) ∧ PySem.W.findIn K (.ref (He.ga K x)) "__init__" = some (some (.ref (He.ma K (He.ga K x) "__init__"))) ∧ PySem.W.typeIn K (.ref (He.ma K (He.ga K x) "__init__")) = some (.type "function") := by
  obtain ⟨h1, h⟩ := Bool.and_eq_true_iff.mp h
  obtain ⟨h2, h⟩ := Bool.and_eq_true_iff.mp h
  obtain ⟨h3, h4⟩ := Bool.and_eq_true_iff.mp h
  exact ⟨oexB_ok h1, xfB_ok h2, He.eqO_ok h3, of_decide_eq_true h4⟩
def hEx (K : PySem.W.Frag) : Bool := fieldsT.all (fldB K) && (eqpB K (He.ga K "Program") && (errB K "BadProgram" && (errB K "BadText" && (errB K "BadWord" && (noTabB K (He.ga K "law"))))))
def hA : List He5.DefA := []
abbrev AlY : Type := He.AlT × (Bool × List He.FnW)
def obsK (K : PySem.W.Frag) : AlY := (He.obsT hFa hFn hTs K, (hEx K && hA.all fun d => d.ok K, hA.map fun d => He5.fnA K (d.at_ K)))
def valY (w : World) : AlY := (He.valT hFn hTs w, (true, hA.map He5.DefA.val))
def nsA (g : Addr → Option Obj) (C : Addr) : Addr := match g C with
  | some ⟨_, _, .cls cd, _⟩ => cd.ns
  | _ => 0
def fnRefs (g : Addr → Option Obj) (a : Addr) : List Addr := match g a with
  | some ⟨_, _, .func fd, _⟩ => He.refV fd.code ++ He.refV fd.defaults
  | _ => []
def tabRefs (g : Addr → Option Obj) (a : Addr) : List Addr := match g a with
  | some o => He.refsD o
  | none => []
def as0 : List Addr := [mainGlobals, cStatics]
def asC (g : Addr → Option Obj) (K : PySem.W.Frag) : List Addr := hCls.map (He.ga K) ++ hCls.map fun c => nsA g (He.ga K c)
def asM (K : PySem.W.Frag) : List Addr := hMeths.map fun p => He.ma K (He.ga K p.1) p.2
def asF (K : PySem.W.Frag) : List Addr := hDefs.map (He.ga K)
def asAll (g : Addr → Option Obj) (cs fs ms : List Addr) (tb : List Addr) (em : List Addr) : List Addr := as0 ++ cs ++ fs ++ ms ++ tb ++ em ++ fs.flatMap (fnRefs g) ++ ms.flatMap (fnRefs g) ++ em.flatMap (fnRefs g) ++ tb.flatMap (tabRefs g)
def as2 (g : Addr → Option Obj) (K0 K1 : PySem.W.Frag) : List Addr := asAll g (asC g K0) (asF K0) (asM K1) [He.ga K0 "FIELDS"] []
def asY (g : Addr → Option Obj) : List Addr := as2 g (He.frG g as0) (He.frG g (as0 ++ asC g (He.frG g as0)))
def obsY (g : Addr → Option Obj) : AlY := obsK (He.frG g (asY g))
abbrev hHk : PySem.W.Hook where
  α := AlY
  obs := fun s => obsY s.heap.get?
  val := fun w => valY w
  says := fun w h => ∃ K : PySem.W.Frag, K.In h ∧ obsK K = valY w
  of := fun _ _ e => ⟨_, He.frG_in, e⟩
  keeps := fun _ _ _ ⟨K, hK, c⟩ k => ⟨K, PySem.W.Frag.In.keeps hK k, c⟩
abbrev hR : PySem.W.OpenRow := PySem.W.OpenLaw.row PySem.Challenge.rw_firsttouch_k04_modules_refused
def hOb (s : PySem.W.SharedT) : AlY := obsY (HandSHeadRun.getT s)
theorem hOb_eq (s : PySem.W.SharedT) : hOb s = hHk.obs s.abs := by
  have e : HandSHeadRun.getT s = s.abs.heap.get? := funext (HandSHeadRun.getT_eq s)
  show obsY (HandSHeadRun.getT s) = obsY s.abs.heap.get?
  rw [e]
abbrev runP (w : World) : Prop := HandSHeadRun.RunEq hR (PySem.W.view hR.prog [lawIx]) hHk hOb topM hNames w
theorem hRunF (w : World) : runP (w.withFollow "special-get-raises" false) := by intro os; kernel_rfl
theorem hRunT (w : World) : runP (w.withFollow "special-get-raises" true) := by intro os; kernel_rfl
theorem hRun (w : World) : HandSHeadRun.RunEq hR (PySem.W.view hR.prog [lawIx]) hHk hOb topM hNames w := PySem.W.byRow2 "special-get-raises" (P := runP) hRunF hRunT w
end Ft
set_option Elab.async false
set_option linter.all false
set_option maxRecDepth 100000
set_option maxHeartbeats 0
namespace Ft
open PySem L2
theorem noTab_ok {K : PySem.W.Frag} {h : Heap} {f c Pt : Addr} {oc : Value} {od : Option Addr} {fd : FuncData} {sl : Array (Option Value)} (X : K.In h) (hb : noTabB K f = true) (lk : K.lookup f = some ⟨oc, od, .func fd, sl⟩) (hc : fd.code = .ref c) (C : PySem.W.CodeHd h c Pt) : K.lookup Pt = none := by
  unfold noTabB at hb
  rw [lk] at hb
  simp only [hc] at hb
  obtain ⟨o, vs, file, tf, flags, tg, inF, text, tt, e1, e2, e3, e4, _⟩ := C
  split at hb
  · rename_i lkc
    have g := X _ _ lkc
    rw [e1] at g
    cases g
    cases e3
    rw [e4] at hb
    exact Option.isNone_iff_eq_none.mp hb
  · cases hb
theorem facts {P : PySem.Program} {w : World} {K : PySem.W.Frag} {h : Heap} {mg : Str → Option Value} {f : Addr} (X : K.In h) (G : h.Ns mainGlobals mg) (hfa : mg ("law" : Str) = some (.ref f)) (c : obsK K = valY w) :
    noTabB K f = true ∧ ∃ fd : FuncData, (∀ (s : Shared) (v : Value), BindsTo s fd ⟨[v], []⟩ [("_law_script", v)]) ∧ (∃ oc od sl, K.lookup f = some ⟨oc, od, .func fd, sl⟩) ∧ ∀ c Pt : Addr, fd.code = .ref c → ∀ base : Heap, K.In base → base.Ns mainGlobals mg → LamX.TabB base mg c Pt → FnOk P w K mg base CX0 31 f fd ["_law_script"] (spLaw K Pt) := by
  have cT : He.SaysT hFa hFn hTs w K := congrArg (fun z : AlY => z.1) c
  have cM : (hEx K && hA.all fun d => d.ok K) = true := congrArg (fun z : AlY => z.2.1) c
  have cd := cT.d
  obtain ⟨hX, hAok⟩ := Bool.and_eq_true_iff.mp cM
  obtain ⟨x1, hX⟩ := Bool.and_eq_true_iff.mp hX
  obtain ⟨x2, hX⟩ := Bool.and_eq_true_iff.mp hX
  obtain ⟨xoBadProgram, hX⟩ := Bool.and_eq_true_iff.mp hX
  obtain ⟨xoBadText, hX⟩ := Bool.and_eq_true_iff.mp hX
  obtain ⟨xoBadWord, hX⟩ := Bool.and_eq_true_iff.mp hX
  obtain ⟨fdLSource, F0LSource⟩ := cd.def_ 0 (d := dX "_law_source" sLSource) rfl
  have FLSource : Fun K "_law_source" "_law_source" sLSource (He.ga K "_law_source") fdLSource := He5.fun_of F0LSource
  have bLSource : Binds K fdLSource ["_law_script", "_law_k"] [] := FLSource.binds fun _ _ _ _ _ _ us hl => match us, hl with | [_, _], _ => rfl
  obtain ⟨fdLDraw, F0LDraw⟩ := cd.def_ 1 (d := dX "_law_draw" sLDraw) rfl
  have FLDraw : Fun K "_law_draw" "_law_draw" sLDraw (He.ga K "_law_draw") fdLDraw := He5.fun_of F0LDraw
  have bLDraw : Binds K fdLDraw ["_law_source_here", "_law_many"] [] := FLDraw.binds fun _ _ _ _ _ _ us hl => match us, hl with | [_, _], _ => rfl
  obtain ⟨fdLPick, F0LPick⟩ := cd.def_ 2 (d := dX "_law_pick" sLPick) rfl
  have FLPick : Fun K "_law_pick" "_law_pick" sLPick (He.ga K "_law_pick") fdLPick := He5.fun_of F0LPick
  have bLPick : Binds K fdLPick ["_law_source_here", "_law_some"] [] := FLPick.binds fun _ _ _ _ _ _ us hl => match us, hl with | [_, _], _ => rfl
  obtain ⟨fdLSame, F0LSame⟩ := cd.def_ 3 (d := dX "_law_same" sLSame) rfl
  have FLSame : Fun K "_law_same" "_law_same" sLSame (He.ga K "_law_same") fdLSame := He5.fun_of F0LSame
  have bLSame : Binds K fdLSame ["_law_found", "_law_due"] [] := FLSame.binds fun _ _ _ _ _ _ us hl => match us, hl with | [_, _], _ => rfl
  obtain ⟨fdLWord, F0LWord⟩ := cd.def_ 4 (d := dX "_law_word" sLWord) rfl
  have FLWord : Fun K "_law_word" "_law_word" sLWord (He.ga K "_law_word") fdLWord := He5.fun_of F0LWord
  have bLWord : Binds K fdLWord ["_law_source_here"] [] := FLWord.binds fun _ _ _ _ _ _ us hl => match us, hl with | [_], _ => rfl
  obtain ⟨fdLNumber, F0LNumber⟩ := cd.def_ 5 (d := dX "_law_number" sLNumber) rfl
  have FLNumber : Fun K "_law_number" "_law_number" sLNumber (He.ga K "_law_number") fdLNumber := He5.fun_of F0LNumber
  have bLNumber : Binds K fdLNumber ["_law_source_here"] [] := FLNumber.binds fun _ _ _ _ _ _ us hl => match us, hl with | [_], _ => rfl
  obtain ⟨fdLPlainRow, F0LPlainRow⟩ := cd.def_ 6 (d := dX "_law_plain_row" sLPlainRow) rfl
  have FLPlainRow : Fun K "_law_plain_row" "_law_plain_row" sLPlainRow (He.ga K "_law_plain_row") fdLPlainRow := He5.fun_of F0LPlainRow
  have bLPlainRow : Binds K fdLPlainRow ["_law_source_here", "_law_word_here"] [] := FLPlainRow.binds fun _ _ _ _ _ _ us hl => match us, hl with | [_, _], _ => rfl
  obtain ⟨fdLRow, F0LRow⟩ := cd.def_ 7 (d := dX "_law_row" sLRow) rfl
  have FLRow : Fun K "_law_row" "_law_row" sLRow (He.ga K "_law_row") fdLRow := He5.fun_of F0LRow
  have bLRow : Binds K fdLRow ["_law_source_here", "_law_budget", "_law_deep", "_law_in_make"] [] := FLRow.binds fun _ _ _ _ _ _ us hl => match us, hl with | [_, _, _, _], _ => rfl
  obtain ⟨fdLBlock, F0LBlock⟩ := cd.def_ 8 (d := dX "_law_block" sLBlock) rfl
  have FLBlock : Fun K "_law_block" "_law_block" sLBlock (He.ga K "_law_block") fdLBlock := He5.fun_of F0LBlock
  have bLBlock : Binds K fdLBlock ["_law_source_here", "_law_budget", "_law_deep", "_law_in_make"] [] := FLBlock.binds fun _ _ _ _ _ _ us hl => match us, hl with | [_, _, _, _], _ => rfl
  obtain ⟨fdLLibrary, F0LLibrary⟩ := cd.def_ 9 (d := dX "_law_library" sLLibrary) rfl
  have FLLibrary : Fun K "_law_library" "_law_library" sLLibrary (He.ga K "_law_library") fdLLibrary := He5.fun_of F0LLibrary
  have bLLibrary : Binds K fdLLibrary ["_law_source_here"] [] := FLLibrary.binds fun _ _ _ _ _ _ us hl => match us, hl with | [_], _ => rfl
  obtain ⟨fdLGiven, F0LGiven⟩ := cd.def_ 10 (d := dX "_law_given" sLGiven) rfl
  have FLGiven : Fun K "_law_given" "_law_given" sLGiven (He.ga K "_law_given") fdLGiven := He5.fun_of F0LGiven
  have bLGiven : Binds K fdLGiven ["_law_source_here", "_law_thing"] [] := FLGiven.binds fun _ _ _ _ _ _ us hl => match us, hl with | [_, _], _ => rfl
  obtain ⟨fdLTupled, F0LTupled⟩ := cd.def_ 11 (d := dX "_law_tupled" sLTupled) rfl
  have FLTupled : Fun K "_law_tupled" "_law_tupled" sLTupled (He.ga K "_law_tupled") fdLTupled := He5.fun_of F0LTupled
  have bLTupled : Binds K fdLTupled ["_law_thing"] [] := FLTupled.binds fun _ _ _ _ _ _ us hl => match us, hl with | [_], _ => rfl
  obtain ⟨fdLHanded, F0LHanded⟩ := cd.def_ 12 (d := dX "_law_handed" sLHanded) rfl
  have FLHanded : Fun K "_law_handed" "_law_handed" sLHanded (He.ga K "_law_handed") fdLHanded := He5.fun_of F0LHanded
  have bLHanded : Binds K fdLHanded ["_law_source_here", "_law_library_here"] [] := FLHanded.binds fun _ _ _ _ _ _ us hl => match us, hl with | [_, _], _ => rfl
  obtain ⟨fdLAny, F0LAny⟩ := cd.def_ 13 (d := dX "_law_any" sLAny) rfl
  have FLAny : Fun K "_law_any" "_law_any" sLAny (He.ga K "_law_any") fdLAny := He5.fun_of F0LAny
  have bLAny : Binds K fdLAny ["_law_source_here", "_law_deep"] [] := FLAny.binds fun _ _ _ _ _ _ us hl => match us, hl with | [_, _], _ => rfl
  obtain ⟨fdLTried, F0LTried⟩ := cd.def_ 14 (d := dX "_law_tried" sLTried) rfl
  have FLTried : Fun K "_law_tried" "_law_tried" sLTried (He.ga K "_law_tried") fdLTried := He5.fun_of F0LTried
  have bLTried : Binds K fdLTried ["_law_deed"] [] := FLTried.binds fun _ _ _ _ _ _ us hl => match us, hl with | [_], _ => rfl
  obtain ⟨fdLNoLibrary, F0LNoLibrary⟩ := cd.def_ 15 (d := dX "_law_no_library" sLNoLibrary) rfl
  have FLNoLibrary : Fun K "_law_no_library" "_law_no_library" sLNoLibrary (He.ga K "_law_no_library") fdLNoLibrary := He5.fun_of F0LNoLibrary
  have bLNoLibrary : Binds K fdLNoLibrary ["_law_source_here"] [] := FLNoLibrary.binds fun _ _ _ _ _ _ us hl => match us, hl with | [_], _ => rfl
  obtain ⟨fdLNoRows, F0LNoRows⟩ := cd.def_ 16 (d := dX "_law_no_rows" sLNoRows) rfl
  have FLNoRows : Fun K "_law_no_rows" "_law_no_rows" sLNoRows (He.ga K "_law_no_rows") fdLNoRows := He5.fun_of F0LNoRows
  have bLNoRows : Binds K fdLNoRows ["_law_source_here"] [] := FLNoRows.binds fun _ _ _ _ _ _ us hl => match us, hl with | [_], _ => rfl
  obtain ⟨fdLaw, F0Law⟩ := cd.def_ 17 (d := dX "law" sLaw) rfl
  have FLaw : Fun K "law" "law" sLaw (He.ga K "law") fdLaw := He5.fun_of F0Law
  have bLaw : Binds K fdLaw ["_law_script"] [] := FLaw.binds fun _ _ _ _ _ _ us hl => match us, hl with | [_], _ => rfl
  obtain ⟨fdIsInteger, F0IsInteger⟩ := cd.def_ 18 (d := dX "is_integer" sIsInteger) rfl
  have FIsInteger : Fun K "is_integer" "is_integer" sIsInteger (He.ga K "is_integer") fdIsInteger := He5.fun_of F0IsInteger
  have bIsInteger : Binds K fdIsInteger ["thing"] [] := FIsInteger.binds fun _ _ _ _ _ _ us hl => match us, hl with | [_], _ => rfl
  obtain ⟨fdIsWord, F0IsWord⟩ := cd.def_ 19 (d := dX "is_word" sIsWord) rfl
  have FIsWord : Fun K "is_word" "is_word" sIsWord (He.ga K "is_word") fdIsWord := He5.fun_of F0IsWord
  have bIsWord : Binds K fdIsWord ["thing"] [] := FIsWord.binds fun _ _ _ _ _ _ us hl => match us, hl with | [_], _ => rfl
  obtain ⟨fdIsField, F0IsField⟩ := cd.def_ 20 (d := dX "is_field" sIsField) rfl
  have FIsField : Fun K "is_field" "is_field" sIsField (He.ga K "is_field") fdIsField := He5.fun_of F0IsField
  have bIsField : Binds K fdIsField ["field", "part"] [] := FIsField.binds fun _ _ _ _ _ _ us hl => match us, hl with | [_, _], _ => rfl
  obtain ⟨fdIsRow, F0IsRow⟩ := cd.def_ 21 (d := dX "is_row" sIsRow) rfl
  have FIsRow : Fun K "is_row" "is_row" sIsRow (He.ga K "is_row") fdIsRow := He5.fun_of F0IsRow
  have bIsRow : Binds K fdIsRow ["thing", "is_within"] [] := FIsRow.binds fun _ _ _ _ _ _ us hl => match us, hl with | [_, _], _ => rfl
  obtain ⟨fdBlocksOf, F0BlocksOf⟩ := cd.def_ 22 (d := dX "blocks_of" sBlocksOf) rfl
  have FBlocksOf : Fun K "blocks_of" "blocks_of" sBlocksOf (He.ga K "blocks_of") fdBlocksOf := He5.fun_of F0BlocksOf
  have bBlocksOf : Binds K fdBlocksOf ["row"] [] := FBlocksOf.binds fun _ _ _ _ _ _ us hl => match us, hl with | [_], _ => rfl
  obtain ⟨fdFirstWrong, F0FirstWrong⟩ := cd.def_ 23 (d := dX "first_wrong" sFirstWrong) rfl
  have FFirstWrong : Fun K "first_wrong" "first_wrong" sFirstWrong (He.ga K "first_wrong") fdFirstWrong := He5.fun_of F0FirstWrong
  have bFirstWrong : Binds K fdFirstWrong ["rows", "path", "is_within"] [] := FFirstWrong.binds fun _ _ _ _ _ _ us hl => match us, hl with | [_, _, _], _ => rfl
  obtain ⟨fdCheckModules, F0CheckModules⟩ := cd.def_ 24 (d := dX "check_modules" sCheckModules) rfl
  have FCheckModules : Fun K "check_modules" "check_modules" sCheckModules (He.ga K "check_modules") fdCheckModules := He5.fun_of F0CheckModules
  have bCheckModules : Binds K fdCheckModules ["modules"] [] := FCheckModules.binds fun _ _ _ _ _ _ us hl => match us, hl with | [_], _ => rfl
  obtain ⟨fdFrozen, F0Frozen⟩ := cd.def_ 25 (d := dX "frozen" sFrozen) rfl
  have FFrozen : Fun K "frozen" "frozen" sFrozen (He.ga K "frozen") fdFrozen := He5.fun_of F0Frozen
  have bFrozen : Binds K fdFrozen ["rows"] [] := FFrozen.binds fun _ _ _ _ _ _ us hl => match us, hl with | [_], _ => rfl
  obtain ⟨fdWalked, F0Walked⟩ := cd.def_ 26 (d := dX "walked" sWalked) rfl
  have FWalked : Fun K "walked" "walked" sWalked (He.ga K "walked") fdWalked := He5.fun_of F0Walked
  have bWalked : Binds K fdWalked ["rows", "path"] [] := FWalked.binds fun _ _ _ _ _ _ us hl => match us, hl with | [_, _], _ => rfl
  obtain ⟨fdProgramInit, F0ProgramInit⟩ := cd.def_ 27 (d := dM "Program" "__init__" "Program.__init__" sProgramInit) rfl
  have FProgramInit : Fun K "__init__" "Program.__init__" sProgramInit (He.ma K (He.ga K "Program") "__init__") fdProgramInit := He5.fun_of F0ProgramInit
  have bProgramInit : Binds K fdProgramInit ["self", "modules"] [] := FProgramInit.binds fun _ _ _ _ _ _ us hl => match us, hl with | [_, _], _ => rfl
  obtain ⟨fdProgramModules, F0ProgramModules⟩ := cd.def_ 28 (d := dM "Program" "modules" "Program.modules" sProgramModules) rfl
  have FProgramModules : Fun K "modules" "Program.modules" sProgramModules (He.ma K (He.ga K "Program") "modules") fdProgramModules := He5.fun_of F0ProgramModules
  have bProgramModules : Binds K fdProgramModules ["self"] [] := FProgramModules.binds fun _ _ _ _ _ _ us hl => match us, hl with | [_], _ => rfl
  obtain ⟨fdBadProgramInit, F0BadProgramInit⟩ := cd.def_ 29 (d := dM "BadProgram" "__init__" "BadProgram.__init__" sBadProgramInit) rfl
  have FBadProgramInit : Fun K "__init__" "BadProgram.__init__" sBadProgramInit (He.ma K (He.ga K "BadProgram") "__init__") fdBadProgramInit := He5.fun_of F0BadProgramInit
  have bBadProgramInit : Binds K fdBadProgramInit ["self", "module", "path"] [] := FBadProgramInit.binds fun _ _ _ _ _ _ us hl => match us, hl with | [_, _, _], _ => rfl
  obtain ⟨fdBadTextInit, F0BadTextInit⟩ := cd.def_ 30 (d := dM "BadText" "__init__" "BadText.__init__" sBadTextInit) rfl
  have FBadTextInit : Fun K "__init__" "BadText.__init__" sBadTextInit (He.ma K (He.ga K "BadText") "__init__") fdBadTextInit := He5.fun_of F0BadTextInit
  have bBadTextInit : Binds K fdBadTextInit ["self", "line"] [] := FBadTextInit.binds fun _ _ _ _ _ _ us hl => match us, hl with | [_, _], _ => rfl
  obtain ⟨fdBadWordInit, F0BadWordInit⟩ := cd.def_ 31 (d := dM "BadWord" "__init__" "BadWord.__init__" sBadWordInit) rfl
  have FBadWordInit : Fun K "__init__" "BadWord.__init__" sBadWordInit (He.ma K (He.ga K "BadWord") "__init__") fdBadWordInit := He5.fun_of F0BadWordInit
  have bBadWordInit : Binds K fdBadWordInit ["self", "word"] [] := FBadWordInit.binds fun _ _ _ _ _ _ us hl => match us, hl with | [_, _], _ => rfl
  have mLSource : mg ("_law_source" : Str) = some (.ref (He.ga K "_law_source")) := He.glo_ok X G (cd.fact 0 (f := .glo "_law_source") rfl)
  have mLDraw : mg ("_law_draw" : Str) = some (.ref (He.ga K "_law_draw")) := He.glo_ok X G (cd.fact 1 (f := .glo "_law_draw") rfl)
  have mLPick : mg ("_law_pick" : Str) = some (.ref (He.ga K "_law_pick")) := He.glo_ok X G (cd.fact 2 (f := .glo "_law_pick") rfl)
  have mLSame : mg ("_law_same" : Str) = some (.ref (He.ga K "_law_same")) := He.glo_ok X G (cd.fact 3 (f := .glo "_law_same") rfl)
  have mLWord : mg ("_law_word" : Str) = some (.ref (He.ga K "_law_word")) := He.glo_ok X G (cd.fact 4 (f := .glo "_law_word") rfl)
  have mLNumber : mg ("_law_number" : Str) = some (.ref (He.ga K "_law_number")) := He.glo_ok X G (cd.fact 5 (f := .glo "_law_number") rfl)
  have mLPlainRow : mg ("_law_plain_row" : Str) = some (.ref (He.ga K "_law_plain_row")) := He.glo_ok X G (cd.fact 6 (f := .glo "_law_plain_row") rfl)
  have mLRow : mg ("_law_row" : Str) = some (.ref (He.ga K "_law_row")) := He.glo_ok X G (cd.fact 7 (f := .glo "_law_row") rfl)
  have mLBlock : mg ("_law_block" : Str) = some (.ref (He.ga K "_law_block")) := He.glo_ok X G (cd.fact 8 (f := .glo "_law_block") rfl)
  have mLLibrary : mg ("_law_library" : Str) = some (.ref (He.ga K "_law_library")) := He.glo_ok X G (cd.fact 9 (f := .glo "_law_library") rfl)
  have mLGiven : mg ("_law_given" : Str) = some (.ref (He.ga K "_law_given")) := He.glo_ok X G (cd.fact 10 (f := .glo "_law_given") rfl)
  have mLTupled : mg ("_law_tupled" : Str) = some (.ref (He.ga K "_law_tupled")) := He.glo_ok X G (cd.fact 11 (f := .glo "_law_tupled") rfl)
  have mLHanded : mg ("_law_handed" : Str) = some (.ref (He.ga K "_law_handed")) := He.glo_ok X G (cd.fact 12 (f := .glo "_law_handed") rfl)
  have mLAny : mg ("_law_any" : Str) = some (.ref (He.ga K "_law_any")) := He.glo_ok X G (cd.fact 13 (f := .glo "_law_any") rfl)
  have mLTried : mg ("_law_tried" : Str) = some (.ref (He.ga K "_law_tried")) := He.glo_ok X G (cd.fact 14 (f := .glo "_law_tried") rfl)
  have mLNoLibrary : mg ("_law_no_library" : Str) = some (.ref (He.ga K "_law_no_library")) := He.glo_ok X G (cd.fact 15 (f := .glo "_law_no_library") rfl)
  have mLNoRows : mg ("_law_no_rows" : Str) = some (.ref (He.ga K "_law_no_rows")) := He.glo_ok X G (cd.fact 16 (f := .glo "_law_no_rows") rfl)
  have mLaw : mg ("law" : Str) = some (.ref (He.ga K "law")) := He.glo_ok X G (cd.fact 17 (f := .glo "law") rfl)
  have mIsInteger : mg ("is_integer" : Str) = some (.ref (He.ga K "is_integer")) := He.glo_ok X G (cd.fact 18 (f := .glo "is_integer") rfl)
  have mIsWord : mg ("is_word" : Str) = some (.ref (He.ga K "is_word")) := He.glo_ok X G (cd.fact 19 (f := .glo "is_word") rfl)
  have mIsField : mg ("is_field" : Str) = some (.ref (He.ga K "is_field")) := He.glo_ok X G (cd.fact 20 (f := .glo "is_field") rfl)
  have mIsRow : mg ("is_row" : Str) = some (.ref (He.ga K "is_row")) := He.glo_ok X G (cd.fact 21 (f := .glo "is_row") rfl)
  have mBlocksOf : mg ("blocks_of" : Str) = some (.ref (He.ga K "blocks_of")) := He.glo_ok X G (cd.fact 22 (f := .glo "blocks_of") rfl)
  have mFirstWrong : mg ("first_wrong" : Str) = some (.ref (He.ga K "first_wrong")) := He.glo_ok X G (cd.fact 23 (f := .glo "first_wrong") rfl)
  have mCheckModules : mg ("check_modules" : Str) = some (.ref (He.ga K "check_modules")) := He.glo_ok X G (cd.fact 24 (f := .glo "check_modules") rfl)
  have mFrozen : mg ("frozen" : Str) = some (.ref (He.ga K "frozen")) := He.glo_ok X G (cd.fact 25 (f := .glo "frozen") rfl)
  have mWalked : mg ("walked" : Str) = some (.ref (He.ga K "walked")) := He.glo_ok X G (cd.fact 26 (f := .glo "walked") rfl)
  have z_int : mg ("int" : Str) = none := He.free_ok X G (cd.fact 27 (f := .free "int") rfl)
  have z_len : mg ("len" : Str) = none := He.free_ok X G (cd.fact 28 (f := .free "len") rfl)
  have z_range : mg ("range" : Str) = none := He.free_ok X G (cd.fact 29 (f := .free "range") rfl)
  have z_isinstance : mg ("isinstance" : Str) = none := He.free_ok X G (cd.fact 30 (f := .free "isinstance") rfl)
  have z_tuple : mg ("tuple" : Str) = none := He.free_ok X G (cd.fact 31 (f := .free "tuple") rfl)
  have z_list : mg ("list" : Str) = none := He.free_ok X G (cd.fact 32 (f := .free "list") rfl)
  have z_dict : mg ("dict" : Str) = none := He.free_ok X G (cd.fact 33 (f := .free "dict") rfl)
  have z_str : mg ("str" : Str) = none := He.free_ok X G (cd.fact 34 (f := .free "str") rfl)
  have z_bool : mg ("bool" : Str) = none := He.free_ok X G (cd.fact 35 (f := .free "bool") rfl)
  have z_sorted : mg ("sorted" : Str) = none := He.free_ok X G (cd.fact 36 (f := .free "sorted") rfl)
  have z_zip : mg ("zip" : Str) = none := He.free_ok X G (cd.fact 37 (f := .free "zip") rfl)
  have z_enumerate : mg ("enumerate" : Str) = none := He.free_ok X G (cd.fact 38 (f := .free "enumerate") rfl)
  have z_all : mg ("all" : Str) = none := He.free_ok X G (cd.fact 39 (f := .free "all") rfl)
  have z_max : mg ("max" : Str) = none := He.free_ok X G (cd.fact 40 (f := .free "max") rfl)
  have z_min : mg ("min" : Str) = none := He.free_ok X G (cd.fact 41 (f := .free "min") rfl)
  have z_sum : mg ("sum" : Str) = none := He.free_ok X G (cd.fact 42 (f := .free "sum") rfl)
  have z_any : mg ("any" : Str) = none := He.free_ok X G (cd.fact 43 (f := .free "any") rfl)
  have mProgram : mg ("Program" : Str) = some (.ref (He.ga K "Program")) := He.glo_ok X G (cd.fact 44 (f := .glo "Program") rfl)
  have c_Program : Cls K (He.ga K "Program") := He.cls_ok (cd.fact 45 (f := .cls "Program") rfl)
  have n_Program_rows_of : PySem.W.findIn K (.ref (He.ga K "Program")) "rows_of" = some none := He.eqO_ok (cd.fact 46 (f := .noat "Program" "rows_of") rfl)
  have n_Program_spots : PySem.W.findIn K (.ref (He.ga K "Program")) "spots" = some none := He.eqO_ok (cd.fact 47 (f := .noat "Program" "spots") rfl)
  have k_Program : Mk K (He.ga K "Program") (He.ma K (He.ga K "Program") "__init__") := He.mkr_ok (cd.fact 48 (f := .mkr "Program") rfl)
  have e_Program_modules : Meth K (He.ga K "Program") "modules" (He.ma K (He.ga K "Program") "modules") := He.meth_ok (cd.fact 49 (f := .meth "Program" "modules") rfl)
  have mFIELDS : mg ("FIELDS" : Str) = some (.ref (He.ga K "FIELDS")) := He.glo_ok X G (cd.fact 50 (f := .glo "FIELDS") rfl)
  obtain ⟨tL, mL⟩ : ∃ t, mg ("LETTERS" : Str) = some (.str letters t) := He.str_ok X G (cd.fact 51 (f := .str "LETTERS" letters) rfl)
  have mBadProgram : mg ("BadProgram" : Str) = some (.ref (He.ga K "BadProgram")) := He.glo_ok X G (cd.fact 52 (f := .glo "BadProgram") rfl)
  have n_BadProgram_module : PySem.W.findIn K (.ref (He.ga K "BadProgram")) "module" = some none := He.eqO_ok (cd.fact 53 (f := .noat "BadProgram" "module") rfl)
  have n_BadProgram_path : PySem.W.findIn K (.ref (He.ga K "BadProgram")) "path" = some none := He.eqO_ok (cd.fact 54 (f := .noat "BadProgram" "path") rfl)
  have mBadText : mg ("BadText" : Str) = some (.ref (He.ga K "BadText")) := He.glo_ok X G (cd.fact 55 (f := .glo "BadText") rfl)
  have n_BadText_line : PySem.W.findIn K (.ref (He.ga K "BadText")) "line" = some none := He.eqO_ok (cd.fact 56 (f := .noat "BadText" "line") rfl)
  have mBadWord : mg ("BadWord" : Str) = some (.ref (He.ga K "BadWord")) := He.glo_ok X G (cd.fact 57 (f := .glo "BadWord") rfl)
  have n_BadWord_word : PySem.W.findIn K (.ref (He.ga K "BadWord")) "word" = some none := He.eqO_ok (cd.fact 58 (f := .noat "BadWord" "word") rfl)
  have x_BadProgram_BadProgram : PySem.W.exmOne K (.ref (He.ga K "BadProgram")) (.ref (He.ga K "BadProgram")) = some true := He.exm_ok (cd.fact 59 (f := .exm "BadProgram" "BadProgram" true) rfl)
  have x_BadWord_BadProgram : PySem.W.exmOne K (.ref (He.ga K "BadWord")) (.ref (He.ga K "BadProgram")) = some false := He.exm_ok (cd.fact 60 (f := .exm "BadWord" "BadProgram" false) rfl)
  have x_BadWord_BadText : PySem.W.exmOne K (.ref (He.ga K "BadWord")) (.ref (He.ga K "BadText")) = some false := He.exm_ok (cd.fact 61 (f := .exm "BadWord" "BadText" false) rfl)
  have x_BadWord_BadWord : PySem.W.exmOne K (.ref (He.ga K "BadWord")) (.ref (He.ga K "BadWord")) = some true := He.exm_ok (cd.fact 62 (f := .exm "BadWord" "BadWord" true) rfl)
  have B : Bl mg := ⟨z_int, z_len, z_range, z_isinstance, z_tuple, z_list, z_dict, z_str, z_bool, z_sorted, z_zip, z_enumerate, z_all, z_max, z_min, z_sum, z_any⟩
  have eT : (hTs.map fun t => He.dicW K (t.1 K)) = hTs.map fun t => some (He.keysIn w.params t.2) := congrArg (fun z : He.AlT => z.2) cT
  have TF : FldT K w mg (He.ga K "FIELDS") := ⟨mFIELDS, cT.tab 0 (t := (fun K => He.ga K "FIELDS", fieldsT.map (·.1))) rfl, fun p hp => fldB_ok (List.all_eq_true.mp x1 p hp), fun z hz => no_key (List.cons.inj eT).1 hz⟩
  have PC : PCls K mg (He.ga K "Program") := ⟨mProgram, c_Program, n_Program_rows_of, n_Program_spots⟩
  have hPW : PlainEq K (He.ga K "Program") := eqpB_ok x2
  obtain ⟨oex_BadProgram, xf_BadProgram, i_BadProgram, t_BadProgram⟩ := errB_ok xoBadProgram
  obtain ⟨oex_BadText, xf_BadText, i_BadText, t_BadText⟩ := errB_ok xoBadText
  obtain ⟨oex_BadWord, xf_BadWord, i_BadWord, t_BadWord⟩ := errB_ok xoBadWord
  have e := hfa.symm.trans mLaw
  cases e
  refine ⟨hX, fdLaw, fun s v => FunD.bindsA (ps := ["_law_script"]) F0Law (fun _ _ _ _ _ _ us hl => match us, hl with | [_], _ => rfl) s [v] rfl, ?_, fun c Pt hcode base _ _ TB => ?_⟩
  · obtain ⟨oc, od, dV, kV, doc, pm, an, cdv, ct, osl, _, lk, _⟩ := F0Law.ex
    exact ⟨oc, od, osl, lk⟩
  have gLDraw := own_mk (k := 1) (P := P) (w := w) (base := base) FLDraw mLDraw bLDraw (ok_LDraw FLDraw B)
  have gLSource := own_mk (k := 1) (P := P) (w := w) (base := base) FLSource mLSource bLSource (ok_LSource FLSource B)
  have gLPick := own_mk FLPick mLPick bLPick (ok_LPick FLPick B gLDraw)
  have gLWord := own_mk FLWord mLWord bLWord (ok_LWord FLWord B gLPick)
  have gLNumber := own_mk FLNumber mLNumber bLNumber (ok_LNumber FLNumber B gLPick (gLDraw.mono (by decide)))
  have gLPlainRow := own_mk FLPlainRow mLPlainRow bLPlainRow (ok_LPlainRow FLPlainRow B gLWord gLNumber)
  have gLRow := (rows_ok FLRow FLBlock B mLRow mLBlock bLRow bLBlock gLDraw gLPick gLWord gLPlainRow 3).1
  have eP : ErrP P w K mg base (He.ga K "BadProgram") := ⟨oex_BadProgram, mBadProgram, n_BadProgram_module, n_BadProgram_path, ⟨_, _, i_BadProgram, t_BadProgram, ok_BadProgramInit (k := 0) FBadProgramInit oex_BadProgram n_BadProgram_module n_BadProgram_path, bBadProgramInit⟩, xf_BadProgram⟩
  have eT1 : ErrT P w K mg base "BadText" "line" ["self", "line"] (He.ga K "BadText") := ⟨oex_BadText, mBadText, n_BadText_line, ⟨_, _, i_BadText, t_BadText, ok_BadTextInit (k := 0) FBadTextInit oex_BadText n_BadText_line, bBadTextInit⟩, xf_BadText⟩
  have eW : ErrT P w K mg base "BadWord" "word" ["self", "word"] (He.ga K "BadWord") := ⟨oex_BadWord, mBadWord, n_BadWord_word, ⟨_, _, i_BadWord, t_BadWord, ok_BadWordInit (k := 0) FBadWordInit oex_BadWord n_BadWord_word, bBadWordInit⟩, xf_BadWord⟩
  have TR : Tri P w K mg base (He.ga K "BadProgram") (He.ga K "BadText") (He.ga K "BadWord") := ⟨eP, eT1, eW, x_BadProgram_BadProgram, x_BadWord_BadProgram, x_BadWord_BadText, x_BadWord_BadWord⟩
  have gIsInteger := own_mk (k := 1) (P := P) (w := w) (base := base) FIsInteger mIsInteger bIsInteger (ok_IsInteger FIsInteger B)
  have gIsWord := own_mk (k := 1) (P := P) (w := w) (base := base) FIsWord mIsWord bIsWord (ok_IsWord FIsWord B mL)
  have gIsField := own_mk FIsField mIsField bIsField (ok_IsField FIsField B gIsWord gIsInteger)
  have gIsRow := own_mk FIsRow mIsRow bIsRow (ok_IsRow FIsRow B TF gIsField)
  have gBlocksOf := own_mk (P := P) (w := w) (base := base) FBlocksOf mBlocksOf bBlocksOf (ok_BlocksOf (k := 0) FBlocksOf B TF)
  have gFirstWrong := firstWrong_ok FFirstWrong B mFirstWrong bFirstWrong (gIsRow.mono (by decide)) gBlocksOf 3
  have gCheckModules := own_mk FCheckModules mCheckModules bCheckModules (ok_CheckModules (k := 8) FCheckModules B (by decide) gIsWord gFirstWrong)
  have gFrozen := frozen_ok (P := P) (w := w) (base := base) FFrozen B TF mFrozen bFrozen 3
  have gWalked := walked_ok FWalked B mWalked bWalked gBlocksOf 3
  have fInit : FnOk P w K mg base CX0 10 (He.ma K (He.ga K "Program") "__init__") fdProgramInit ["self", "modules"] (spProgramInit (He.ga K "Program")) := ok_ProgramInit (k := 9) FProgramInit B PC (by decide) gCheckModules gFrozen gWalked
  have gProgram : OwnC P w K mg base 10 "Program" (He.ga K "Program") ["self", "modules"] (spProgramInit (He.ga K "Program")) := ⟨_, _, k_Program, fInit, mProgram, bProgramInit⟩
  have gLLibrary := own_mk FLLibrary mLLibrary bLLibrary (ok_LLibraryP (k := 11) FLLibrary B (by decide) gLDraw gLWord gLRow)
  have gLAny : Own P w K mg base 4 "_law_any" ["_law_source_here", "_law_deep"] (spLAny 1) := lany_ok FLAny B mLAny bLAny gLDraw gLPick 1
  have gm_modules : OwnM P w K mg base 1 (He.ga K "Program") "modules" ["self"] (spProgramModules (He.ga K "Program")) _ _ := ⟨c_Program, e_Program_modules, ok_ProgramModules (k := 0) FProgramModules B PC, bProgramModules⟩
  have gBlocksOfT := own_mk (P := P) (w := w) (base := base) FBlocksOf mBlocksOf bBlocksOf (ok_BlocksOfT (k := 0) FBlocksOf B TF)
  have gFirstWrongT := firstWrongT_ok FFirstWrong B mFirstWrong bFirstWrong (gIsRow.mono (by decide)) gBlocksOfT 4
  have gECheckModules := ownE_mk FCheckModules mCheckModules bCheckModules (ok_CheckModules (k := 9) FCheckModules B (by decide) gIsWord gFirstWrong) (ok_CheckModulesT (k := 9) FCheckModules B (by decide) gIsWord gFirstWrongT eP)
  have fInitT := ok_ProgramInitT (C := He.ga K "Program") (k := 10) FProgramInit B (by decide) gECheckModules
  have fNo : FnOk P w K mg base (L2N.CX P w) 10 _ fdCheckModules ["modules"] (spCheckNo (He.ga K "BadProgram")) := fn_orE (ok_CheckModulesN (k := 9) FCheckModules B (by decide) gIsWord gFirstWrongT eP) (ok_CheckModulesO (k := 9) FCheckModules B (by decide) gIsWord gFirstWrongT eP)
  have gECheckNo := ownE_mk FCheckModules mCheckModules bCheckModules (ok_CheckModules (k := 9) FCheckModules B (by decide) gIsWord gFirstWrong) fNo
  have fInitN := ok_ProgramInitN (C := He.ga K "Program") (k := 10) FProgramInit B (by decide) gECheckNo checkNo_any
  have fInitA : FnOk P w K mg base (L2N.CX P w) 11 (He.ma K (He.ga K "Program") "__init__") fdProgramInit ["self", "modules"] (spInit4 (He.ga K "Program") (He.ga K "BadProgram")) := fn_orE ((fn_any fInit).mono (by decide)) (fn_orE fInitT fInitN)
  have gLGiven := givenT_ok FLGiven B mLGiven bLGiven gLDraw 10
  have gLSame : Own P w K mg base 12 "_law_same" ["_law_found", "_law_due"] (spLSame 11) := (lsame_ok FLSame B mLSame bLSame 11).mono (by decide)
  have gLTupled : Own P w K mg base 12 "_law_tupled" ["_law_thing"] (spLTupledR 10) := (ltupledR_ok FLTupled B mLTupled bLTupled 10).mono (by decide)
  have gLHanded := own_mk FLHanded mLHanded bLHanded (ok_LHandedT (k := 12) FLHanded B (by decide) gLDraw gLGiven)
  have gLNoLibrary := own_mk FLNoLibrary mLNoLibrary bLNoLibrary (ok_LNoLibrary (k := 2) FLNoLibrary B (by decide) gLPick)
  have gLNoRows := own_mk FLNoRows mLNoRows bLNoRows (ok_LNoRows (k := 4) FLNoRows B (by decide) gLAny gLPick)
  exact ok_law (k := 30) FLaw hcode TB B (by decide) gLSource gLDraw gLLibrary gLNoLibrary gLNoRows gLTupled gLHanded gLSame gm_modules FLTried mLTried bLTried TR mProgram k_Program fInitA bProgramInit
end Ft
open PySem PySem.W PySem.Calls PyProof.Rows
set_option maxRecDepth 100000 in
set_option maxHeartbeats 0 in
theorem PySem.Challenge.cw_firsttouch_k04_modules_refused_holds : PySem.Challenge.rw_firsttouch_k04_modules_refused.Holds := by
  w_on; o_law
  refine HandSHeadRun.head_any (r := Ft.hR) (q := view Ft.hR.prog [Ft.lawIx]) (H := Ft.hHk) (ob := Ft.hOb) (M := Ft.topM) (loose := Ft.hNames) (d := HandSHeadRun.topDef Ft.hR.prog Ft.lawIx) (kwd := []) Ft.hOb_eq
    (by kernel_rfl) (fun s => by kernel_rfl) Ft.hRun (by kernel_rfl) (by kernel_rfl) (by kernel_rfl) (by rfl) (by first | assumption | decide +kernel) (by decide +kernel) ⟨rfl, rfl, rfl, rfl, rfl, by decide +kernel⟩ ?hw ?hc
  case hw => w_witness2
  case hc =>
    refine Ft.walk_ofOwnE (l := PySem.Challenge.rw_firsttouch_k04_modules_refused) (n := 63) (k := 31) (x := "_law_script") (CX := fun _ => L2.CX0) rfl (by decide) (by kernel_rfl) ⟨rfl, by decide, by decide⟩ (by kernel_rfl) ?F (fun _ _ _ _ _ z => z)
    intro w mg fa h Y G hmg0 own
    obtain ⟨K, KX, c⟩ := Y
    have hmg : mg ("law" : PySem.Str) = some (.ref fa) := by
      have e : (HandSHeadRun.topDef Ft.hR.prog Ft.lawIx).name = ("law" : PySem.Str) := by kernel_rfl
      rw [← e]
      exact hmg0
    obtain ⟨hnt, fd, hb, ⟨oc, od, sl, lk⟩, hF⟩ := Ft.facts (P := (PySem.Challenge.rw_firsttouch_k04_modules_refused).prog) (w := w) KX G hmg c
    obtain ⟨o, fd2, cc, Pt, ho, hd, hcd, hC, hP⟩ := own
    have e1 := KX _ _ lk
    rw [ho] at e1
    obtain rfl := Option.some.inj e1
    cases hd
    have one : ∀ {q : PySem.Addr × PySem.Addr → Prop}, q (cc, Pt) → ∀ p ∈ [(cc, Pt)], q p := fun h p hp => by
      rw [List.mem_singleton.mp hp]; exact h
    exact ⟨K, KX, fd, [(cc, Pt)], Ft.spLaw K Pt, one hP, one (Ft.noTab_ok KX hnt lk hcd hC), one hC, hb, fun H a ns hl _ hT hS => ⟨a, ns, rfl, hS, hT _ (List.mem_singleton.mpr rfl), fun _ => rfl⟩, fun base kb nb hB => hF cc Pt hcd base kb nb (hB _ (List.mem_singleton.mpr rfl))⟩
