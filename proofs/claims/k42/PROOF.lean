import PyProof.Rows.All
import Wide.All
import OpenK.AllK
import Wide.FinOn
import HandS.ForMost
import HandS.IsInst
import HandS.Gcd
import HandS.Wide
import HandS.Zip
import HandS.Conv
import HandS.Flow
import HandS.Walk
import HandS.Codes
import KE.GoesMore
import KE.GoesEnum
import HandS.TupMul
import HandS.TupAny
import HandS.ForExc
import HandS.ExcIs
import HandS.TryMany
import HandS.SortRule
import HandS.Deep
import KE.KRevSl
import PySem.Challenge.RW_sameontrees_k42_refusals_of_matrices
set_option Elab.async false
set_option linter.all false
set_option maxRecDepth 100000
/-! a small layer of our own over HandS: plain data that never changes, defs by name, zip of a list and a tuple -/
namespace Ly
open PySem PySem.Spec PyProof.Rows L2

/-! ### frames -/
/-- every tuple that is tracked stays -/
def TK (H H' : Hp) : Prop := ∀ b xs, H b = some (.tup xs) → H' b = some (.tup xs)
theorem TK.rfl (H : Hp) : TK H H := fun _ _ h => h
theorem TK.trans {H H1 H2 : Hp} (a : TK H H1) (b : TK H1 H2) : TK H H2 := fun c o h => b c o (a c o h)
theorem tk_same {H H' : Hp} (s : Same H H') : TK H H' := fun b _ h => s b _ h
theorem tk_new {H : Hp} {p : Addr} {o : HO} (h : H p = none) : TK H (upd H p o) := fun b xs e => by
  rw [upd_ne (ne_of_none e h)]; exact e
theorem tk_lst {H : Hp} {p : Addr} {o : HO} {xs : List V} (h : H p = some (.lst xs)) : TK H (upd H p o) := fun b ys e => by
  have : b ≠ p := by
    intro z; subst z; rw [h] at e; cases e
  rw [upd_ne this]; exact e
theorem same_new {H : Hp} {p : Addr} {o : HO} (h : H p = none) : Same H (upd H p o) := fun b x e => by
  rw [upd_ne (ne_of_none e h)]; exact e

/-! ### data: none, bools, ints, texts, tuples of such -/
/-- a tuple that stands: tracked, or of the module's own -/
def ITup (K : PySem.W.Frag) (H : Hp) (a : Addr) (xs : List V) : Prop :=
  H a = some (.tup xs) ∨ ∃ (o : Obj) (its : Array Value) (n : Nat), K.lookup a = some o ∧ o.cls = .type "tuple" ∧ o.data = .seq its n ∧ its.size ≤ sizeLine ∧ Vals xs its.toList
theorem ITup.sq {K : PySem.W.Frag} {H : Hp} {a : Addr} {xs : List V} (h : ITup K H a xs) : SqT K H a xs := h.elim (fun e => .inl (.inl e)) .inr
theorem ITup.mono {K : PySem.W.Frag} {H H' : Hp} {a : Addr} {xs : List V} (t : TK H H') (h : ITup K H a xs) : ITup K H' a xs := h.elim (fun e => .inl (t _ _ e)) .inr
mutual
inductive Im (K : PySem.W.Frag) (H : Hp) : V → PyData → Prop
  | non : Im K H .non .none
  | bl (b : Bool) : Im K H (.bl b) (.bool b)
  | int (i : Int) : Im K H (.int i) (.int i)
  | str (x : Str) : Im K H (.str x) (.str x)
  | tup {a : Addr} {xs : List V} {ds : List PyData} : ITup K H a xs → ImAll K H xs ds → Im K H (.ref a) (.tuple ds)
inductive ImAll (K : PySem.W.Frag) (H : Hp) : List V → List PyData → Prop
  | nil : ImAll K H [] []
  | cons {v : V} {vs : List V} {d : PyData} {ds : List PyData} : Im K H v d → ImAll K H vs ds → ImAll K H (v :: vs) (d :: ds)
end
section
variable {K : PySem.W.Frag} {H H' : Hp}
mutual
theorem Im.mono (t : TK H H') : ∀ (d : PyData) {v : V}, Im K H v d → Im K H' v d
  | .none, _, h => by cases h; exact .non
  | .bool _, _, h => by cases h; exact .bl _
  | .int _, _, h => by cases h; exact .int _
  | .str _, _, h => by cases h; exact .str _
  | .tuple ds, _, h => by cases h with | tup e r => exact .tup (e.mono t) (ImAll.mono t ds r)
  | .list _, _, h => by cases h
  | .dict _, _, h => by cases h
theorem ImAll.mono (t : TK H H') : ∀ (ds : List PyData) {vs : List V}, ImAll K H vs ds → ImAll K H' vs ds
  | [], _, h => by cases h; exact .nil
  | d :: ds, _, h => by cases h with | cons a r => exact .cons (Im.mono t d a) (ImAll.mono t ds r)
end
mutual
theorem Im.dp : ∀ (d : PyData) {v : V}, Im K H v d → Dp K H v d
  | .none, _, h => by cases h; exact .non
  | .bool _, _, h => by cases h; exact .bl _
  | .int _, _, h => by cases h; exact .int _
  | .str _, _, h => by cases h; exact .str _
  | .tuple ds, _, h => by cases h with | tup e r => exact .tup e.sq (ImAll.dp ds r)
  | .list _, _, h => by cases h
  | .dict _, _, h => by cases h
theorem ImAll.dp : ∀ (ds : List PyData) {vs : List V}, ImAll K H vs ds → DpAll K H vs ds
  | [], _, h => by cases h; exact .nil
  | d :: ds, _, h => by cases h with | cons a r => exact .cons (Im.dp d a) (ImAll.dp ds r)
end
theorem ImAll.length : ∀ {vs : List V} {ds : List PyData}, ImAll K H vs ds → vs.length = ds.length
  | [], ds, h => by cases h; rfl
  | _ :: _, _, h => by cases h with | cons _ r => rw [List.length_cons, List.length_cons, ImAll.length r]
theorem ImAll.get : ∀ {vs : List V} {ds : List PyData} {i : Nat} {d : PyData}, ImAll K H vs ds → ds[i]? = some d → ∃ v, vs[i]? = some v ∧ Im K H v d
  | _, _, 0, _, .cons a _, e => by
    simp at e; subst e; exact ⟨_, rfl, a⟩
  | _, _, i + 1, _, .cons _ r, e => by
    obtain ⟨v, h1, h2⟩ := ImAll.get (i := i) r (by simpa using e)
    exact ⟨v, by simpa using h1, h2⟩
  | _, _, _, _, .nil, e => by simp at e
theorem ImAll.getV : ∀ {vs : List V} {ds : List PyData} {i : Nat} {v : V}, ImAll K H vs ds → vs[i]? = some v → ∃ d, ds[i]? = some d ∧ Im K H v d
  | _, _, 0, _, .cons a _, e => by
    simp at e; subst e; exact ⟨_, rfl, a⟩
  | _, _, i + 1, _, .cons _ r, e => by
    obtain ⟨v, h1, h2⟩ := ImAll.getV (i := i) r (by simpa using e)
    exact ⟨v, by simpa using h1, h2⟩
  | _, _, _, _, .nil, e => by simp at e
theorem ImAll.snoc : ∀ {vs : List V} {ds : List PyData} {v : V} {d : PyData}, ImAll K H vs ds → Im K H v d → ImAll K H (vs ++ [v]) (ds ++ [d])
  | _, _, _, _, .nil, a => .cons a .nil
  | _, _, _, _, .cons b r, a => .cons b (ImAll.snoc r a)
theorem Im.tuple_inv {v : V} {ds : List PyData} (h : Im K H v (.tuple ds)) : ∃ a xs, v = .ref a ∧ ITup K H a xs ∧ ImAll K H xs ds := by
  cases h with | tup e r => exact ⟨_, _, rfl, e, r⟩
theorem Im.int_inv {v : V} {i : Int} (h : Im K H v (.int i)) : v = .int i := by cases h; rfl
theorem Im.bool_inv {v : V} {i : Bool} (h : Im K H v (.bool i)) : v = .bl i := by cases h; rfl
theorem Im.str_inv {v : V} {i : Str} (h : Im K H v (.str i)) : v = .str i := by cases h; rfl
theorem Im.none_inv {v : V} (h : Im K H v .none) : v = .non := by cases h; rfl
theorem ImAll.cons_inv {vs : List V} {d : PyData} {ds : List PyData} (h : ImAll K H vs (d :: ds)) : ∃ v r, vs = v :: r ∧ Im K H v d ∧ ImAll K H r ds := by
  cases h with | cons a r => exact ⟨_, _, rfl, a, r⟩
theorem ImAll.nil_inv {vs : List V} (h : ImAll K H vs []) : vs = [] := by cases h; rfl
/-- a new tuple of data -/
theorem Im.new {p : Addr} {xs : List V} {ds : List PyData} (n : H p = none) (r : ImAll K H xs ds) : Im K (upd H p (.tup xs)) (.ref p) (.tuple ds) :=
  .tup (.inl upd_same) (ImAll.mono (tk_new n) ds r)
end

/-! ### defs by their names -/
section
variable (P : Program) (w : World) (K : PySem.W.Frag) (mg : Str → Option Value) (base : Heap)
/-- the def st that the name x holds keeps the promise sp, by at most level k; nothing is raised out of it -/
structure Def (k : Nat) (x : Str) (st : Stmt) (ps : List Str) (sp : Sp) : Prop where
  ex : ∃ (f : Addr) (fd : FuncData), FnOk P w K mg base CX0 k f fd ps sp ∧ mg x = some (.ref f) ∧ PySem.W.keepIn K (.ref f) = true ∧ L2.Binds K fd ps [] ∧ Fun K x x st f fd
end
section
variable {X : Cx} {k : Nat} {x : Str} {st : Stmt} {ps ks : List Str} {sp : Sp} {p pos : Pos} {e : Expr} {es : List Expr} {kws : List Keyword} {t tk : TA} {g : List Value → List Value → List Value} {gV : List V → List V → List V}
theorem pe_def (O : Def X.prog X.w X.K X.mg X.base k x st ps sp) (hr : Room k X.A) (hg : Gl X x) (ha : PA X (e :: es) t) (hdb : (x == ("__debug__" : Str)) = false := by decide)
    (he : starEach (e :: es) X.env = (false, eval e X.env) :: starEach es X.env := by rfl) (hpl : (backTo pos (starEach es X.env)).any (·.1) = false := by rfl) :
    PE X (.Call (.Name x p) (e :: es) [] pos) (tCall sp [] E0 t) := by
  obtain ⟨f, fd, F, hm, hk, hb, _⟩ := O.ex
  exact pe_call F hr hg hm hk hb .nil pass0 ha hdb he hpl
/-- all arguments by their names -/
theorem pe_defK (O : Def X.prog X.w X.K X.mg X.base k x st ps sp) (hr : Room k X.A) (hg : Gl X x) (kb : ∀ f fd, Fun X.K x x st f fd → KBinds X.K fd ps ks g gV) (hkw : PK X kws tk)
    (hall : (backToKw pos (keywordEach kws X.env)).all (·.1.isSome) = true := by rfl) (hks : (backToKw pos (keywordEach kws X.env)).filterMap (·.1) = ks := by rfl) (hdb : (x == ("__debug__" : Str)) = false := by decide)
    (hpl : ((backTo pos (starEach [] X.env)).any (·.1) || (backToKw pos (keywordEach kws X.env)).any (·.1.isNone)) = false := by rfl) :
    PE X (.Call (.Name x p) [] kws pos) (tCallK sp gV E0 tNil tk) := by
  obtain ⟨f, fd, F, hm, hk, _, U⟩ := O.ex
  refine ⟨fun pins s σ H Q I h => wpAny_Call_Name_kw (ld_glob I hg hm (PySem.W.callWith_KW0 (h₀ := X.base) I.ok.mod.kin hk hall (thn (hkw.run pos pins s σ H _ I h) ?_) hpl) hdb)⟩
  rintro ws s2 ⟨zs, H2, I2, rz, q2⟩
  refine ⟨I2.kIn, ?_⟩
  rw [hks]
  exact run_fnk F hr (kb f fd U) pass0 I2 .nil rz q2
end
/-- a name of the module that holds a value -/
theorem pe_gv {X : Cx} {x : Str} {v : V} {pos : Pos} (hg : Gl X x) (h : ∃ u, X.mg x = some u ∧ RelV v u) (hd : (x == ("__debug__" : Str)) = false := by decide) : PE X (.Name x pos) (tC v) := by
  obtain ⟨u, h1, h2⟩ := h
  exact pe_glob hg h1 h2 hd
/-! ### zip of a list and a tuple -/
/-- the list at a and the tuple at b, as they stand at each turn, their items in new pairs -/
def ItzM (K : PySem.W.Frag) (a b : Addr) : It where
  go := fun i H => ∃ xs ys x y, SqL K H a xs ∧ SqT K H b ys ∧ xs[i]? = some x ∧ ys[i]? = some y
  yld := fun i H v H' => ∃ T x y, v = .ref T ∧ H T = none ∧ H' = upd H T (.tup [x, y]) ∧ (∀ l, SqL K H a l → l[i]? = some x) ∧ ∀ l, SqT K H b l → l[i]? = some y
  stop := fun i H => ∃ xs ys : List V, SqL K H a xs ∧ SqT K H b ys ∧ i ≤ xs.length ∧ i ≤ ys.length ∧ (i = xs.length ∨ i = ys.length)
theorem in5 {z a b c d e : Addr} (h : z ∈ [a, b, c, d, e]) : z = a ∨ z = b ∨ z = c ∨ z = d ∨ z = e := by simpa using h
theorem turnM {P : Program} {w : World} {K : PySem.W.Frag} {elts : List Expr} {kk : Nat} {tpos : Pos} {a b z TI TO i1 i2 : Addr} (S : ZipSep2 z TI TO i1 i2 [i1, a] [i2, b]) :
    Turn P w K (.Tuple elts kk tpos) (ItzM K a b) [z, TI, TO, i1, i2] z (fun i h => IsZip h z TI TO .none ∧ IsTupOf2 h TI (.ref i1) (.ref i2) ∧ (∃ x y, IsTupOf2 h TO x y) ∧ h.IsListIter i1 a i ∧ h.IsTupleIter i2 b i) := by
  have n12 : i1 ≠ i2 := fun q => S.sep1_2 (by rw [q]; exact List.mem_cons_self ..)
  have z1 := S.zi1
  have z2 := S.zi2
  have t1 := S.Ti1
  have t2 := S.Ti2
  have keep4 : ∀ {h h' : Heap} {c : Addr} {o : Obj}, (∀ c o, c ≠ z → c ≠ TO → c ≠ i1 → c ≠ i2 → h.get? c = some o → h'.get? c = some o) → c ∉ [z, TI, TO, i1, i2] → h.get? c = some o → h'.get? c = some o :=
    fun k hc q => k _ _ (fun e => hc (by simp [e])) (fun e => hc (by simp [e])) (fun e => hc (by simp [e])) (fun e => hc (by simp [e])) q
  have size5 : ∀ {h : Heap} {i : Nat}, IsZip h z TI TO .none → IsTupOf2 h TI (.ref i1) (.ref i2) → (∃ x y, IsTupOf2 h TO x y) → h.IsListIter i1 a i → h.IsTupleIter i2 b i → ∀ c ∈ [z, TI, TO, i1, i2], c < h.objs.size := by
    intro h i hz hT ⟨x, y, hO⟩ ⟨o1, e1, _⟩ ⟨o2, e2, _⟩ c hc
    rcases in5 hc with q | q | q | q | q <;> subst q
    · exact Heap.lt_size hz
    · exact Heap.lt_size hT
    · exact Heap.lt_size hO
    · exact Heap.lt_size e1
    · exact Heap.lt_size e2
  refine { mem := List.mem_cons_self .., obj := ?_, keep := ?_, item := ?_, done := ?_, self := fun A i s Q E st h => wpAny_pyIter_zip st.1 h }
  · rintro i h ⟨hz, hT, ⟨x, y, hO⟩, ⟨o1, e1, _, d1⟩, ⟨o2, e2, _, d2⟩⟩ c hc
    rcases in5 hc with q | q | q | q | q <;> subst q
    · exact ⟨_, hz, fun v q => nomatch q⟩
    · exact ⟨_, hT, fun v q => nomatch q⟩
    · exact ⟨_, hO, fun v q => nomatch q⟩
    · exact ⟨o1, e1, fun v q => by rw [d1] at q; cases q⟩
    · exact ⟨o2, e2, fun v q => by rw [d2] at q; cases q⟩
  · rintro i h h' ⟨hz, hT, ⟨x, y, hO⟩, l1, l2⟩ k
    exact ⟨k z (by simp) _ hz, k TI (by simp) _ hT, ⟨x, y, k TO (by simp) _ hO⟩, l1.at fun o q => k i1 (by simp) o q, l2.at fun o q => k i2 (by simp) o q⟩
  · intro X hP hw hK hc i pins s σ H E I hf st hg
    subst hP hw hK
    obtain ⟨hz, hT, hO, l1, l2⟩ := st
    have lts := size5 hz hT hO l1 l2
    obtain ⟨x0, y0, hO⟩ := hO
    obtain ⟨xs, ys, x, y, qx, qy, hx, hy⟩ := hg
    obtain ⟨its, rv, p, _⟩ := I.list qx
    obtain ⟨its2, rv2, p2, _⟩ := I.tuple qy
    obtain ⟨u, hu, ru⟩ := rv.get hx
    obtain ⟨u2, hu2, ru2⟩ := rv2.get hy
    have a1 : a ≠ i1 := fun q => by
      obtain ⟨o, ho, c, _⟩ := l1
      obtain ⟨o', ho', c', _⟩ := p.isList
      rw [← q, ho'] at ho; cases ho
      rw [c'] at c; simp at c
    have b2 : b ≠ i2 := fun q => by
      obtain ⟨o, ho, c, _⟩ := l2
      obtain ⟨o', ho', c', _⟩ := p2
      rw [← q, ho'] at ho; cases ho
      rw [c'] at c; simp at c
    have hd : X.A.in1.handled = none := I.ok.hd hc
    have D1 := Draws.list (prog := X.prog) (w := X.w) hd i1 a a1 its.toArray
    have D2 := Draws.tuple (prog := X.prog) (w := X.w) hd i2 b b2 its2.toArray
    have s1 : i < its.toArray.size := by
      have := (List.getElem?_eq_some_iff.mp hu).1
      simpa using this
    have s2 : i < its2.toArray.size := by
      have := (List.getElem?_eq_some_iff.mp hu2).1
      simpa using this
    refine wpAny_pyNext_zipD2_item S D1 D2 hz hT hO ⟨l1, p.isList⟩ ⟨l2, p2⟩ s1 s2 fun v1 v2 h' tk e1 e2 z' O' st1 st2 hN hsz hk => ?_
    have ev1 : u = v1 := by
      have : its[i]? = some v1 := by simpa using e1
      rw [hu] at this; exact Option.some.inj this
    have ev2 : u2 = v2 := by
      have : its2[i]? = some v2 := by simpa using e2
      rw [hu2] at this; exact Option.some.inj this
    subst ev1 ev2
    refine ⟨_, rfl, wpAny_letOwnedTupleGo_zip (s := { s with heap := h', toks := tk }) z' fun h2 zz sb => ?_⟩
    have zlt : z < s.heap.objs.size := lts z (by simp)
    have pair : h2.get? s.heap.objs.size = some { cls := .type "tuple", data := .seq #[u, u2] } := (sb.2 _ (Nat.ne_of_gt zlt)).trans hN
    have new : ObjOk X.prog X.w (upd H s.heap.objs.size (.tup [x, y])) h2 s.heap.objs.size (.tup [x, y]) := ⟨by show 2 ≤ sizeLine; decide, [u, u2], .cons ru (.cons ru2 .nil), ⟨_, pair, rfl, _, rfl⟩⟩
    have I2 : Inv X pins σ (upd H s.heap.objs.size (.tup [x, y])) { s with heap := h2, toks := tk } :=
      I.turnedNew (t' := tk) (ch := [z, TI, TO, i1, i2]) (fun c o hb q => (sb.2 c (fun e => hb (by simp [e]))).trans (keep4 hk hb q)) hf (Nat.le_refl _) new
    refine ⟨.ref s.heap.objs.size, _, I2, rfl, ⟨_, x, y, rfl, I.hok.fresh (Nat.le_refl _), rfl, fun l hl => by rw [I.list_inj hl qx]; exact hx, fun l hl => by rw [I.tuple_inj hl qy]; exact hy⟩, ⟨zz, ?_, ⟨u, u2, ?_⟩, ?_, ?_⟩, fun c hc => ?_⟩
    · exact (sb.2 _ S.TIz).trans (hk _ _ S.TIz S.TITO S.TIi1 S.TIi2 hT)
    · exact (sb.2 _ S.TOz).trans O'
    · exact st1.1.at fun o q => (sb.2 _ z1.symm).trans q
    · exact st2.1.at fun o q => (sb.2 _ z2.symm).trans q
    · rw [upd_ne (Nat.ne_of_lt (lts c hc))]
      exact (hf c hc).1
  · intro X hP hw hK hc i pins s σ H E I hf st hg
    subst hP hw hK
    obtain ⟨hz, hT, ⟨x0, y0, hO⟩, l1, l2⟩ := st
    obtain ⟨xs, ys, qx, qy, le1, le2, hend⟩ := hg
    obtain ⟨its, rv, p, _⟩ := I.list qx
    obtain ⟨its2, rv2, p2, _⟩ := I.tuple qy
    have a1 : a ≠ i1 := fun q => by
      obtain ⟨o, ho, c, _⟩ := l1
      obtain ⟨o', ho', c', _⟩ := p.isList
      rw [← q, ho'] at ho; cases ho
      rw [c'] at c; simp at c
    have b2 : b ≠ i2 := fun q => by
      obtain ⟨o, ho, c, _⟩ := l2
      obtain ⟨o', ho', c', _⟩ := p2
      rw [← q, ho'] at ho; cases ho
      rw [c'] at c; simp at c
    have hd : X.A.in1.handled = none := I.ok.hd hc
    have e1 := rv.length
    have e2 := rv2.length
    refine wpAny_pyNext_zipD2_end S (Draws.list (prog := X.prog) (w := X.w) hd i1 a a1 its.toArray) (Draws.tuple (prog := X.prog) (w := X.w) hd i2 b b2 its2.toArray) hz hT hO ⟨l1, p.isList⟩ ⟨l2, p2⟩ (by simp; omega) (by simp; omega) (by simp; omega) fun h' tk hk => ?_
    exact ⟨rfl, I.turnedL (t' := tk) (ch := [z, TI, TO, i1, i2]) (fun c o hb q => keep4 hk hb q) hf⟩
def iZipM (K : PySem.W.Frag) (ta : TA) : TI := fun σ H R => ta σ H fun vs H1 => ∃ a b xs ys, vs = [.ref a, .ref b] ∧ SqL K H1 a xs ∧ SqT K H1 b ys ∧ R (ItzM K a b) H1
theorem pi_zipM {X : Cx} {e e2 : Expr} {ta : TA} {p pos tpos : Pos} {elts : List Expr} {kk : Nat} (hg : Gl X "zip") (hm : X.mg "zip" = none) (ha : PA X [e, e2] ta)
    (hs : starEach [e, e2] X.env = (false, eval e X.env) :: starEach [e2] X.env := by rfl) (hpl : (backTo pos (starEach [e2] X.env)).any (·.1) = false := by rfl) :
    PI X (.Tuple elts kk tpos) (.Call (.Name "zip" p) [e, e2] [] pos) (iZipM X.K ta) := by
  refine ⟨fun pins s σ H R I h => Call_ (ld_blt I hg hm PyProof.Rows.boot_zip (PyProof.Rows.callWith_type1 (thn (ha.run pos pins s σ H _ I h) ?_) hs hpl))⟩
  rintro us s1 ⟨vs, H1, I1, r1, a, b, xs, ys, rfl, qx, qy, q⟩
  cases r1 with | cons r rr => cases rr with | cons r' rr =>
  cases rr
  cases r
  cases r'
  obtain ⟨its, rv, p1, _⟩ := I1.list qx
  obtain ⟨its2, rv2, p2, _⟩ := I1.tuple qy
  obtain ⟨o2, ho2, _⟩ := id p2
  have lb : b < s1.heap.objs.size := Heap.lt_size ho2
  have la : a < s1.heap.objs.size := p1.lt
  have S := zip_sep2 (N := s1.heap.objs.size) (fp1 := [a]) (fp2 := [b]) (fun c hc => by simp at hc; rw [hc]; exact la) (fun c hc => by simp at hc; rw [hc]; exact lb)
  refine zip_begins2 (begins_list a its.toArray) (begins_tuple b its2.toArray) p1.isList p2 fun h' hz hT hO g1 g2 hsz hk => wpAny_pyIter_zip hz ?_
  have I2 : Inv X pins σ H1 { s1 with heap := h' } := I1.kept (t' := s1.toks) hk
  refine ⟨_, [s1.heap.objs.size + 4, s1.heap.objs.size + 2, s1.heap.objs.size + 3, s1.heap.objs.size, s1.heap.objs.size + 1], _, _, H1, rfl, I2, turnM S, ⟨hz, hT, ⟨_, _, hO⟩, ⟨_, g1, rfl, rfl⟩, ⟨_, g2, rfl, rfl⟩⟩, fun c hc => ?_, q⟩
  have le : s1.heap.objs.size ≤ c := by
    rcases in5 hc with z | z | z | z | z <;> rw [z] <;> first | exact Nat.le_refl _ | exact Nat.le_add_right _ _
  exact I1.fpOk le (I1.hok.fresh le)
theorem walk_zipM {K : PySem.W.Frag} {a b : Addr} {xs ys : List V} (e : xs.length = ys.length) : Walk (ItzM K a b) xs.length (fun H => SqL K H a xs ∧ SqT K H b ys) (YPair (fun i => xs[i]?) (fun i => ys[i]?)) := by
  refine ⟨fun i _ hi q => ?_, fun _ q => ⟨xs, ys, q.1, q.2, Nat.le_refl _, Nat.le_of_eq e, .inl rfl⟩, fun i H v H' _ q y => ?_⟩
  · have h2 : i < ys.length := by omega
    exact ⟨xs, ys, xs[i], ys[i], q.1, q.2, by simp [hi], by simp [h2]⟩
  · obtain ⟨T, x, z, h1, h2, h3, h4, h5⟩ := y
    exact ⟨T, x, z, h1, h2, h3, h4 xs q.1, h5 ys q.2⟩
theorem walk_zipT {K : PySem.W.Frag} {a b : Addr} {xs ys : List V} (e : xs.length = ys.length) : Walk (RZ.ItzT K a b) xs.length (fun H => SqT K H a xs ∧ SqT K H b ys) (YPair (fun i => xs[i]?) (fun i => ys[i]?)) := by
  refine ⟨fun i _ hi q => ?_, fun _ q => ⟨xs, ys, q.1, q.2, .inl (Nat.le_refl _)⟩, fun i H v H' _ q y => ?_⟩
  · have h2 : i < ys.length := by omega
    exact ⟨xs, ys, xs[i], ys[i], q.1, q.2, by simp [hi], by simp [h2]⟩
  · obtain ⟨T, x, z, h1, h2, h3, h4, h5⟩ := y
    exact ⟨T, x, z, h1, h2, h3, h4 xs q.1, h5 ys q.2⟩

/-! ### lists of ints as data -/
section
variable {K : PySem.W.Frag} {H : Hp}
theorem dp_ints : ∀ ns : List Int, DpAll K H (ns.map V.int) (ns.map PyData.int)
  | [] => .nil
  | n :: ns => .cons (.int n) (dp_ints ns)
theorem lay_ints : ∀ ns : List Int, PyData.canLayAll0 (ns.map PyData.int) = true
  | [] => by simp [PyData.canLayAll0]
  | n :: ns => by simp [PyData.canLayAll0, PyData.canLay0, lay_ints ns]
theorem deep_ints : ∀ ns : List Int, PyData.depthAll (ns.map PyData.int) ≤ 1
  | [] => by simp [PyData.depthAll]
  | n :: ns => by
    have := deep_ints ns
    simp only [List.map_cons, PyData.depthAll, PyData.depth]
    omega
theorem shaped_ints (ns : List Int) : SeqAt.shaped (.list (ns.map PyData.int)) = true := by
  have h := deep_ints ns
  have h2 : PyData.depth (.list (ns.map PyData.int)) ≤ 64 := by
    simp only [PyData.depth]; omega
  show (PyData.canLay0 (.list (ns.map PyData.int)) && decide (PyData.depth (.list (ns.map PyData.int)) ≤ 64)) = true
  rw [Bool.and_eq_true]
  exact ⟨by simp only [PyData.canLay0]; exact lay_ints ns, decide_eq_true h2⟩
theorem eqv_ints_nil (ns : List Int) : PyData.eqv (.list (ns.map PyData.int)) (.list []) = ns.isEmpty := by
  cases ns <;> simp [PyData.eqv, PyData.eqvAll]
end
/-! ### rules with the written part told: what they ask hangs on no block's own things -/
section
variable {X : Cx} (K : PySem.W.Frag)
theorem kix_tup (e : X.K = K := by rfl) : IxR X (rIxT K) := by subst e; exact ix_tup
theorem kix_list (e : X.K = K := by rfl) : IxR X (rIxL K) := by subst e; exact ix_list
def rLenK : List V → Hp → VK → Prop := fun xs H Q => ∃ p ys, xs = [.ref p] ∧ (SqL K H p ys ∨ SqT K H p ys) ∧ Q (.int ys.length) H
theorem kcall_len (e : X.K = K := by rfl) : CallR X (.builtin "len") (rLenK K) := by subst e; exact call_len_seq
def rTupK : List V → Hp → VK → Prop := fun xs H Q => ∃ p ys, xs = [.ref p] ∧ ((SqL K H p ys ∧ ∀ l, H l = none → Q (.ref l) (upd H l (.tup ys))) ∨ (SqT K H p ys ∧ Q (.ref p) H))
theorem kcall_tuple (e : X.K = K := by rfl) : CallR X (.type "tuple") (rTupK K) := by subst e; exact call_tuple_of
def rLstK : List V → Hp → VK → Prop := fun xs H Q => ∃ p ys, xs = [.ref p] ∧ (SqL K H p ys ∨ SqT K H p ys) ∧ ∀ l, H l = none → Q (.ref l) (upd H l (.lst ys))
theorem kcall_list (e : X.K = K := by rfl) : CallR X (.type "list") (rLstK K) := by subst e; exact call_list_of
theorem kcall_isi (e : X.K = K := by rfl) : CallR X (.builtin "isinstance") (rIsi K) := by subst e; exact call_isi
theorem kcr_all (hc : X.calm = true := by rfl) (e : X.K = K := by rfl) : CallR X (.builtin "all") (rAll K) := by subst e; exact cr_all hc
theorem kop_eqD (hu : X.A.units + 64 < cLine) (e : X.K = K := by rfl) : OpR X (compareOp .Eq) (rEqD K) := by subst e; exact op_eqD hu
theorem kop_neD (hu : X.A.units + 64 < cLine) (e : X.K = K := by rfl) : OpR X (compareOp .NotEq) (rNeD K) := by subst e; exact op_neD hu
theorem kpi_tup {tg l : Expr} {tl : TE} (hl : PE X l tl) (e : X.K = K := by rfl) : PI X tg l (iTup K tl) := by subst e; exact pi_tup hl
theorem kpi_list {tg l : Expr} {tl : TE} (hl : PE X l tl) (e : X.K = K := by rfl) : PI X tg l (iList K tl) := by subst e; exact pi_list hl
theorem kpg_tup {es : List Expr} {k : Nat} {pos : Pos} {t : TGs} {n : Nat} (hc : X.calm = true) (h : PGs X es t) (hn : (assignEach es X.env).length = n := by rfl) (hst : (assignEach es X.env).findIdx? (·.1) = none := by rfl) (e : X.K = K := by rfl) : PG X (.Tuple es k pos) (gTup K n t) := by
  subst e; exact pg_tup hc h hn hst
theorem kpi_zipM {e1 e2 : Expr} {ta : TA} {p pos tpos : Pos} {elts : List Expr} {kk : Nat} (hg : Gl X "zip") (hm : X.mg "zip" = none) (ha : PA X [e1, e2] ta)
    (hs : starEach [e1, e2] X.env = (false, eval e1 X.env) :: starEach [e2] X.env := by rfl) (hpl : (backTo pos (starEach [e2] X.env)).any (·.1) = false := by rfl) (e : X.K = K := by rfl) :
    PI X (.Tuple elts kk tpos) (.Call (.Name "zip" p) [e1, e2] [] pos) (iZipM K ta) := by subst e; exact pi_zipM hg hm ha hs hpl
theorem kpi_zip {e1 e2 : Expr} {ta : TA} {p pos tpos : Pos} {elts : List Expr} {kk : Nat} (hg : Gl X "zip") (hm : X.mg "zip" = none) (ha : PA X [e1, e2] ta)
    (hs : starEach [e1, e2] X.env = (false, eval e1 X.env) :: starEach [e2] X.env := by rfl) (hpl : (backTo pos (starEach [e2] X.env)).any (·.1) = false := by rfl) (e : X.K = K := by rfl) :
    PI X (.Tuple elts kk tpos) (.Call (.Name "zip" p) [e1, e2] [] pos) (RZ.iZipA K ta) := by subst e; exact RZ.pi_zipA hg hm ha hs hpl
end
/-! ### a comprehension without tests -/
theorem lc_all {J : It} {n : Nat} {G : Hp → Prop} {Y : Nat → Hp → V → Hp → Prop} (w : Walk J n G Y) {g : TG} {te : TE} {vs : List Nat} {σ : L2.St} {H1 : Hp} {D : Addr} {Qd : Hp → Prop} (Pv : Nat → Hp → Prop) (h0 : Pv 0 (upd H1 D (.lst []))) (hG : ∀ i H, i ≤ n → Pv i H → G H)
    (hs : ∀ i x H H', i < n → Pv i H → Y i H x H' → g x (wipe σ vs) H' fun σ2 H2 => wipe σ2 vs = wipe σ vs ∧ te σ2 H2 fun y H4 => ∃ acc, H4 D = some (.lst acc) ∧ acc.length < sizeLine ∧ Pv (i + 1) (upd H4 D (.lst (acc ++ [y]))))
    (hd : ∀ H, Pv n H → Qd H) :
    ∃ W : Nat → Nat → Hp → Prop, (∃ m, W 0 m (upd H1 D (.lst []))) ∧ ∀ i m H, W i m H →
      (J.stop i H ∧ Qd H) ∨ (J.go i H ∧ ∃ Nx : Hp → Prop, (∀ H', Nx H' → ∃ m', m' < m ∧ W (i + 1) m' H') ∧ ∀ x H', J.yld i H x H' → g x (wipe σ vs) H' fun σ2 H2 => wipe σ2 vs = wipe σ vs ∧ tYes σ2 H2 fun b H3 =>
        if b = true then te σ2 H3 fun y H4 => ∃ acc, H4 D = some (.lst acc) ∧ acc.length < sizeLine ∧ Nx (upd H4 D (.lst (acc ++ [y]))) else Nx H3) := by
  refine lc_it w Pv h0 hG (fun i x H H' hi p y => ?_) hd
  have h := hs i x H H' hi p y
  refine Eq.mp (congrArg (g x (wipe σ vs) H') ?_) h
  funext σ2 H2
  simp only [tYes, if_true]
/-- nothing is kept but the values that came: the list holds f of each turn -/
theorem lc_acc {J : It} {n : Nat} {G : Hp → Prop} {Y : Nat → Hp → V → Hp → Prop} (w : Walk J n G Y) {g : TG} {te : TE} {vs : List Nat} {σ : L2.St} {H1 : Hp} {D : Addr} {Qd : Hp → Prop} (Pv : Nat → List V → Hp → Prop) (hn : n < sizeLine) (h0 : Pv 0 [] (upd H1 D (.lst []))) (hG : ∀ i acc H, i ≤ n → Pv i acc H → G H)
    (hs : ∀ i x acc H H', i < n → Pv i acc H → H D = some (.lst acc) → acc.length = i → Y i H x H' → g x (wipe σ vs) H' fun σ2 H2 => wipe σ2 vs = wipe σ vs ∧ te σ2 H2 fun y H4 => H4 D = some (.lst acc) ∧ Pv (i + 1) (acc ++ [y]) (upd H4 D (.lst (acc ++ [y]))))
    (mono : ∀ σ H (Q Q' : VK), (∀ v H1, Q v H1 → Q' v H1) → te σ H Q → te σ H Q') (gmono : ∀ x σ H (Q Q' : L2.St → Hp → Prop), (∀ σ1 H1, Q σ1 H1 → Q' σ1 H1) → g x σ H Q → g x σ H Q')
    (hd : ∀ acc H, Pv n acc H → H D = some (.lst acc) → acc.length = n → Qd H) :
    ∃ W : Nat → Nat → Hp → Prop, (∃ m, W 0 m (upd H1 D (.lst []))) ∧ ∀ i m H, W i m H →
      (J.stop i H ∧ Qd H) ∨ (J.go i H ∧ ∃ Nx : Hp → Prop, (∀ H', Nx H' → ∃ m', m' < m ∧ W (i + 1) m' H') ∧ ∀ x H', J.yld i H x H' → g x (wipe σ vs) H' fun σ2 H2 => wipe σ2 vs = wipe σ vs ∧ tYes σ2 H2 fun b H3 =>
        if b = true then te σ2 H3 fun y H4 => ∃ acc, H4 D = some (.lst acc) ∧ acc.length < sizeLine ∧ Nx (upd H4 D (.lst (acc ++ [y]))) else Nx H3) := by
  refine lc_all w (fun i H => ∃ acc, acc.length = i ∧ H D = some (.lst acc) ∧ Pv i acc H) ⟨[], rfl, upd_same, h0⟩ (fun i H hi ⟨acc, _, _, p⟩ => hG i acc H hi p) (fun i x H H' hi ⟨acc, l, e, p⟩ y => ?_) (fun H ⟨acc, l, e, p⟩ => hd acc H p e l)
  refine gmono _ _ _ _ _ (fun σ1 H2 ⟨a, b⟩ => ⟨a, mono _ _ _ _ (fun v H3 ⟨c, d⟩ => ⟨acc, c, by omega, acc ++ [v], by rw [List.length_append, l]; rfl, upd_same, d⟩) b⟩) (hs i x acc H H' hi p e l y)

/-! ### the end: where each def stands behind the top -/
/-- the name x holds the def st -/
def Here (K : PySem.W.Frag) (mg : Str → Option Value) (x : Str) (st : Stmt) : Prop := ∃ f fd, mg x = some (.ref f) ∧ Fun K x x st f fd
section
variable {P : Program} {w : World} {K : PySem.W.Frag} {mg : Str → Option Value} {base h : Heap}
theorem here (X : K.In h) (G : h.Ns mainGlobals mg) {x : Str} {st : Stmt} {f : Addr} {oc : Value} {od an : Option Addr} {osl : Array (Option Value)} {kV doc pm cdv ct : Value}
    (a : PySem.W.nsIn K mainGlobals x = some (some (.ref f)))
    (l : K.lookup f = some ⟨oc, od, .func (PySem.W.fnOf x x (defArgs st) (defBody st) (defScope st) .none kV doc pm an cdv ct), osl⟩)
    (c : PySem.W.codeIn K cdv x = true) (k : PySem.W.keepIn K (.ref f) = true) : Here K mg x st := ⟨f, _, PySem.W.mg_of X G a, fun_mk l c k⟩
theorem Here.toDef {x : Str} {st : Stmt} {k : Nat} {ps : List Str} {sp : Sp} (z : Here K mg x st) (ok : ∀ {f : Addr} {fd : FuncData}, Fun K x x st f fd → FnOk P w K mg base CX0 k f fd ps sp)
    (b : ∀ (kV doc pm : Value) (an : Option Addr) (cdv ct : Value) (us : List Value), us.length = ps.length → bindArgs (PySem.W.fnOf x x (defArgs st) (defBody st) (defScope st) .none kV doc pm an cdv ct) ⟨us, []⟩ = pure (ps.zip us)) : Def P w K mg base k x st ps sp := by
  obtain ⟨f, fd, hm, F⟩ := z
  exact ⟨f, fd, ok F, hm, F.kp, F.binds b, F⟩
theorem pair_mk (X : K.In h) (G : h.Ns mainGlobals mg) {x : Str} {a : Addr} {i j : Int} {t u : Tok} {dd : Option Addr} {n : Nat} {sl : Array (Option Value)}
    (h1 : PySem.W.nsIn K mainGlobals x = some (some (.ref a))) (h2 : K.lookup a = some ⟨.type "tuple", dd, .seq #[.int i t, .int j u] n, sl⟩) : ∃ a, mg x = some (.ref a) ∧ ∀ H, ITup K H a [.int i, .int j] :=
  ⟨a, PySem.W.mg_of X G h1, fun _ => .inr ⟨_, _, _, h2, rfl, rfl, by show 2 ≤ sizeLine; decide, .cons ⟨_, rfl⟩ (.cons ⟨_, rfl⟩ .nil)⟩⟩
end
end Ly

set_option linter.all false
set_option maxRecDepth 10000
/-! plain mathematics: ratios, sums of products, products of matrices -/
namespace Mt
theorem made_num {t b : Int} (hb : 0 < b) : t / ((Nat.gcd t.natAbs b.natAbs : Nat) : Int) = (Rat.divInt t b).num := by
  rw [Rat.num_divInt, Int.sign_eq_one_of_pos hb, Int.one_mul, Int.gcd_comm]; rfl
theorem made_den {t b : Int} (hb : 0 < b) : b / ((Nat.gcd t.natAbs b.natAbs : Nat) : Int) = ((Rat.divInt t b).den : Int) := by
  rw [Rat.den_divInt, if_neg (by omega), Int.gcd_comm]
  show b / ((Nat.gcd t.natAbs b.natAbs : Nat) : Int) = ((b.natAbs / Nat.gcd t.natAbs b.natAbs : Nat) : Int)
  have e : b = (b.natAbs : Int) := by omega
  rw [Int.natCast_ediv]
  congr 1
theorem gcd_pos {t b : Int} (hb : 0 < b) : (0 : Int) < ((Nat.gcd t.natAbs b.natAbs : Nat) : Int) := by
  have : 0 < Nat.gcd t.natAbs b.natAbs := Nat.gcd_pos_of_pos_right _ (by omega)
  omega
theorem gcd_le {t b : Int} (hb : 0 < b) : ((Nat.gcd t.natAbs b.natAbs : Nat) : Int).natAbs ≤ b.natAbs := by
  show Nat.gcd t.natAbs b.natAbs ≤ b.natAbs
  exact Nat.gcd_le_right _ (by omega)
theorem den_pos (q : Rat) : (0 : Int) < (q.den : Int) := by have := q.den_pos; omega
theorem cop (q : Rat) : Nat.gcd q.num.natAbs ((q.den : Int)).natAbs = 1 := q.reduced
theorem add_as (x y : Rat) : Rat.divInt (x.num * (y.den : Int) + y.num * (x.den : Int)) ((x.den : Int) * (y.den : Int)) = x + y := by
  have hx : (x.den : Int) ≠ 0 := by have := den_pos x; omega
  have hy : (y.den : Int) ≠ 0 := by have := den_pos y; omega
  rw [← Rat.divInt_add_divInt _ _ hx hy, Rat.num_divInt_den, Rat.num_divInt_den]
theorem mul_as (x y : Rat) : Rat.divInt (x.num * y.num) ((x.den : Int) * (y.den : Int)) = x * y := by
  rw [← Rat.divInt_mul_divInt, Rat.num_divInt_den, Rat.num_divInt_den]
theorem num_zero {q : Rat} (h : q.num = 0) : q = 0 := by
  have := Rat.num_divInt_den q
  rw [h] at this
  rw [← this]
  simp
/-- bounds of both parts -/
def Bd (n m : Nat) (q : Rat) : Prop := q.num.natAbs < 2 ^ n ∧ ((q.den : Int)).natAbs < 2 ^ m
theorem Bd.mono {n m n' m' : Nat} {q : Rat} (h : Bd n m q) (hn : n ≤ n') (hm : m ≤ m') : Bd n' m' q :=
  ⟨Nat.lt_of_lt_of_le h.1 (Nat.pow_le_pow_right (by decide) hn), Nat.lt_of_lt_of_le h.2 (Nat.pow_le_pow_right (by decide) hm)⟩
theorem bd_divInt {n m : Nat} {t b : Int} (hb : 0 < b) (ht : t.natAbs < 2 ^ n) (hm : b.natAbs < 2 ^ m) : Bd n m (Rat.divInt t b) := by
  refine ⟨?_, ?_⟩
  · rw [← made_num hb, Int.natAbs_ediv_of_dvd (Int.ofNat_dvd_left.mpr (Nat.gcd_dvd_left _ _))]
    exact Nat.lt_of_le_of_lt (Nat.div_le_self _ _) ht
  · rw [← made_den hb, Int.natAbs_ediv_of_dvd (Int.ofNat_dvd_left.mpr (Nat.gcd_dvd_right _ _))]
    exact Nat.lt_of_le_of_lt (Nat.div_le_self _ _) hm
theorem lt_mul {i j : Int} {a b : Nat} (ha : i.natAbs < 2 ^ a) (hb : j.natAbs < 2 ^ b) : (i * j).natAbs < 2 ^ (a + b) := by
  rw [Int.natAbs_mul, Nat.pow_add]
  exact Nat.mul_lt_mul'' ha hb
theorem lt_add {i j : Int} {a : Nat} (ha : i.natAbs < 2 ^ a) (hb : j.natAbs < 2 ^ a) : (i + j).natAbs < 2 ^ (a + 1) := by
  have := Int.natAbs_add_le i j
  rw [Nat.pow_succ]; omega
theorem lt_up {i : Int} {a b : Nat} (ha : i.natAbs < 2 ^ a) (h : a ≤ b) : i.natAbs < 2 ^ b := Nat.lt_of_lt_of_le ha (Nat.pow_le_pow_right (by decide) h)
theorem Bd.mul {n m n' m' : Nat} {x y : Rat} (h : Bd n m x) (k : Bd n' m' y) : Bd (n + n') (m + m') (x * y) := by
  rw [← mul_as]
  exact bd_divInt (Int.mul_pos (den_pos x) (den_pos y)) (lt_mul h.1 k.1) (lt_mul h.2 k.2)
theorem Bd.add {n m n' m' N : Nat} {x y : Rat} (h : Bd n m x) (k : Bd n' m' y) (h1 : n + m' ≤ N) (h2 : n' + m ≤ N) : Bd (N + 1) (m + m') (x + y) := by
  rw [← add_as]
  exact bd_divInt (Int.mul_pos (den_pos x) (den_pos y)) (lt_add (lt_up (lt_mul h.1 k.2) h1) (lt_up (lt_mul k.1 h.2) h2)) (lt_mul h.2 k.2)
theorem bd_zero {n m : Nat} (hm : 1 ≤ m) : Bd n m 0 := by
  refine ⟨?_, ?_⟩
  · show 0 < 2 ^ n
    exact Nat.two_pow_pos n
  · show 1 < 2 ^ m
    exact Nat.lt_of_lt_of_le (by decide : 1 < 2 ^ 1) (Nat.pow_le_pow_right (by decide) hm)

/-! ### sums of products -/
def dot : List Rat → List Rat → Rat
  | x :: xs, y :: ys => x * y + dot xs ys
  | _, _ => 0
theorem dot_nil (ys : List Rat) : dot [] ys = 0 := by cases ys <;> rfl
theorem dot_nil2 (xs : List Rat) : dot xs [] = 0 := by cases xs <;> rfl
theorem dot_take : ∀ {xs ys : List Rat} {i : Nat} {x y : Rat}, xs[i]? = some x → ys[i]? = some y → dot (xs.take (i + 1)) (ys.take (i + 1)) = dot (xs.take i) (ys.take i) + x * y
  | a :: xs, b :: ys, 0, x, y, h, k => by
    simp at h k; subst h k
    simp [dot]; grind
  | a :: xs, b :: ys, i + 1, x, y, h, k => by
    have ih := dot_take (xs := xs) (ys := ys) (i := i) (by simpa using h) (by simpa using k)
    simp only [List.take_succ_cons, dot] at ih ⊢
    rw [ih]; grind
  | [], _, _, _, _, h, _ => by simp at h
  | _ :: _, [], _, _, _, _, k => by simp at k
/-- a row and a multiple of another one -/
def addS (acc : List Rat) (w : Rat) (r : List Rat) : List Rat := List.zipWith (fun o t => o + w * t) acc r
/-- the sum of multiples of rows, ahead of it acc -/
def comb : List Rat → List (List Rat) → List Rat → List Rat
  | w :: ws, r :: rs, acc => comb ws rs (addS acc w r)
  | _, _, acc => acc
theorem addS_length {acc r : List Rat} {w : Rat} (h : r.length = acc.length) : (addS acc w r).length = acc.length := by
  unfold addS; rw [List.length_zipWith]; omega
theorem addS_zero : ∀ {acc r : List Rat}, r.length = acc.length → addS acc 0 r = acc
  | [], [], _ => rfl
  | a :: acc, b :: r, h => by
    have ih := addS_zero (acc := acc) (r := r) (by simpa using h)
    show (a + 0 * b) :: addS acc 0 r = a :: acc
    rw [ih, Rat.zero_mul, Rat.add_zero]
  | [], _ :: _, h => by simp at h
  | _ :: _, [], h => by simp at h
theorem addS_get {acc r : List Rat} {w : Rat} {k : Nat} {a b : Rat} (ha : acc[k]? = some a) (hb : r[k]? = some b) : (addS acc w r)[k]? = some (a + w * b) := by
  unfold addS; rw [List.getElem?_zipWith, ha, hb]
theorem comb_length : ∀ {ws : List Rat} {rs : List (List Rat)} {acc : List Rat}, (∀ r ∈ rs, r.length = acc.length) → (comb ws rs acc).length = acc.length
  | [], _, _, _ => by simp [comb]
  | _ :: _, [], _, _ => by simp [comb]
  | w :: ws, r :: rs, acc, h => by
    have h0 := h r (List.mem_cons_self ..)
    have e := addS_length (w := w) h0
    show (comb ws rs (addS acc w r)).length = acc.length
    rw [comb_length (fun q hq => by rw [e]; exact h q (List.mem_cons_of_mem _ hq)), e]
/-- the k-th column -/
def col (rs : List (List Rat)) (k : Nat) : List Rat := rs.map fun r => r.getD k 0
theorem comb_get : ∀ {ws : List Rat} {rs : List (List Rat)} {acc : List Rat} {k : Nat} {a : Rat}, (∀ r ∈ rs, r.length = acc.length) → acc[k]? = some a → (comb ws rs acc)[k]? = some (a + dot ws (col rs k))
  | [], rs, acc, k, a, _, ha => by
    rw [dot_nil, Rat.add_zero]; simpa [comb] using ha
  | _ :: _, [], acc, k, a, _, ha => by
    show acc[k]? = some (a + dot _ [])
    rw [dot_nil2, Rat.add_zero]; exact ha
  | w :: ws, r :: rs, acc, k, a, h, ha => by
    have h0 := h r (List.mem_cons_self ..)
    have hk : k < r.length := by rw [h0]; exact (List.getElem?_eq_some_iff.mp ha).1
    have hr : r[k]? = some r[k] := List.getElem?_eq_getElem hk
    have e := addS_length (w := w) h0
    have ih := comb_get (ws := ws) (rs := rs) (acc := addS acc w r) (k := k) (fun q hq => by rw [e]; exact h q (List.mem_cons_of_mem _ hq)) (addS_get (w := w) ha hr)
    show (comb ws rs (addS acc w r))[k]? = some (a + (w * r.getD k 0 + dot ws (col rs k)))
    rw [ih, List.getD_eq_getElem?_getD, hr]
    show some (a + w * r[k] + dot ws (col rs k)) = some (a + (w * r[k] + dot ws (col rs k)))
    rw [Rat.add_assoc]
theorem comb_snoc : ∀ {ws : List Rat} {rs : List (List Rat)} {acc : List Rat} {w : Rat} {r : List Rat}, ws.length = rs.length → comb (ws ++ [w]) (rs ++ [r]) acc = addS (comb ws rs acc) w r
  | [], [], _, _, _, _ => rfl
  | a :: ws, b :: rs, acc, w, r, h => by
    show comb (ws ++ [w]) (rs ++ [r]) (addS acc a b) = addS (comb ws rs (addS acc a b)) w r
    exact comb_snoc (by simpa using h)
  | [], _ :: _, _, _, _, h => by simp at h
  | _ :: _, [], _, _, _, h => by simp at h
/-- one row times a matrix whose rows have n entries -/
def vm (n : Nat) (r : List Rat) (B : List (List Rat)) : List Rat := comb r B (List.replicate n 0)
theorem vm_as {n : Nat} {r : List Rat} {B : List (List Rat)} (h : ∀ b ∈ B, b.length = n) : vm n r B = (List.range n).map fun k => dot r (col B k) := by
  have h' : ∀ b ∈ B, b.length = (List.replicate n (0 : Rat)).length := fun b hb => by rw [h b hb, List.length_replicate]
  apply List.ext_getElem?
  intro k
  by_cases hk : k < n
  · have e : (List.replicate n (0 : Rat))[k]? = some 0 := by rw [List.getElem?_replicate, if_pos hk]
    have := comb_get (ws := r) h' e
    unfold vm
    rw [this, List.getElem?_map, List.getElem?_range hk, Rat.zero_add]
    rfl
  · have l1 : (vm n r B).length = n := by unfold vm; rw [comb_length h', List.length_replicate]
    rw [List.getElem?_eq_none (by omega), List.getElem?_eq_none (by simp; omega)]
theorem vm_length {n : Nat} {r : List Rat} {B : List (List Rat)} (h : ∀ b ∈ B, b.length = n) : (vm n r B).length = n := by
  rw [vm_as h]; simp
def mm (n : Nat) (A B : List (List Rat)) : List (List Rat) := A.map fun r => vm n r B
theorem dot_addS : ∀ {acc b c : List Rat} {w : Rat}, b.length = acc.length → dot (addS acc w b) c = dot acc c + w * dot b c
  | [], [], c, w, _ => by
    show dot [] c = dot [] c + w * dot [] c
    rw [dot_nil]; grind
  | x :: acc, y :: b, [], w, _ => by
    rw [dot_nil2, dot_nil2, dot_nil2]; grind
  | x :: acc, y :: b, z :: c, w, h => by
    have ih := dot_addS (acc := acc) (b := b) (c := c) (w := w) (by simpa using h)
    show (x + w * y) * z + dot (addS acc w b) c = x * z + dot acc c + w * (y * z + dot b c)
    rw [ih]; grind
  | [], _ :: _, _, _, h => by simp at h
  | _ :: _, [], _, _, h => by simp at h
theorem dot_comb : ∀ {ws : List Rat} {rs : List (List Rat)} {acc c : List Rat}, (∀ r ∈ rs, r.length = acc.length) → dot (comb ws rs acc) c = dot acc c + dot ws (rs.map fun r => dot r c)
  | [], rs, acc, c, _ => by
    rw [dot_nil, Rat.add_zero]; simp [comb]
  | _ :: _, [], acc, c, _ => by
    show dot acc c = dot acc c + dot _ []
    rw [dot_nil2, Rat.add_zero]
  | w :: ws, r :: rs, acc, c, h => by
    have h0 := h r (List.mem_cons_self ..)
    have e := addS_length (w := w) h0
    have ih := dot_comb (ws := ws) (rs := rs) (acc := addS acc w r) (c := c) (fun q hq => by rw [e]; exact h q (List.mem_cons_of_mem _ hq))
    show dot (comb ws rs (addS acc w r)) c = dot acc c + (w * dot r c + dot ws (rs.map fun r => dot r c))
    rw [ih, dot_addS h0, Rat.add_assoc]
theorem dot_zeros : ∀ {n : Nat} {c : List Rat}, dot (List.replicate n 0) c = 0
  | 0, c => dot_nil c
  | n + 1, [] => dot_nil2 _
  | n + 1, z :: c => by
    rw [List.replicate_succ]
    show 0 * z + dot (List.replicate n 0) c = 0
    rw [dot_zeros, Rat.zero_mul, Rat.add_zero]
theorem dot_vm {n : Nat} {r c : List Rat} {B : List (List Rat)} (h : ∀ b ∈ B, b.length = n) : dot (vm n r B) c = dot r (B.map fun b => dot b c) := by
  unfold vm
  rw [dot_comb (fun b hb => by rw [h b hb, List.length_replicate]), dot_zeros, Rat.zero_add]
/-- of three matrices it is the same whichever two come first -/
theorem mm_assoc {n m : Nat} {A B C : List (List Rat)} (hB : ∀ b ∈ B, b.length = n) (hC : ∀ c ∈ C, c.length = m) : mm m (mm n A B) C = mm m A (mm m B C) := by
  unfold mm
  rw [List.map_map]
  refine List.map_congr_left fun r _ => ?_
  show vm m (vm n r B) C = vm m r (B.map fun b => vm m b C)
  have hM : ∀ x ∈ B.map (fun b => vm m b C), x.length = m := fun x hx => by
    obtain ⟨b', _, rfl⟩ := List.mem_map.mp hx
    exact vm_length hC
  rw [vm_as hM, vm_as (r := vm n r B) hC]
  refine List.map_congr_left fun k hk => ?_
  have hk' : k < m := List.mem_range.mp hk
  rw [dot_vm hB]
  congr 1
  unfold col
  rw [List.map_map]
  refine List.map_congr_left fun b _ => ?_
  show dot b (C.map fun r => r.getD k 0) = (vm m b C).getD k 0
  rw [vm_as hC, List.getD_eq_getElem?_getD, List.getElem?_map, List.getElem?_range hk']
  rfl
/-! ### bounds of what comes -/
theorem bd_dot {N M : Nat} : ∀ {i : Nat} {xs ys : List Rat}, (∀ x ∈ xs, ∀ y ∈ ys, Bd N M (x * y)) → xs.length ≤ i → Bd (N + i * (M + 2)) (i * M + 1) (dot xs ys)
  | i, [], ys, _, _ => by rw [dot_nil]; exact bd_zero (by omega)
  | i, _ :: _, [], _, _ => by rw [dot_nil2]; exact bd_zero (by omega)
  | 0, _ :: _, _ :: _, _, h => by simp at h
  | i + 1, x :: xs, y :: ys, h, hl => by
    have ih := bd_dot (i := i) (xs := xs) (ys := ys) (fun a ha b hb => h a (List.mem_cons_of_mem _ ha) b (List.mem_cons_of_mem _ hb)) (by simpa using hl)
    have h0 := h x (List.mem_cons_self ..) y (List.mem_cons_self ..)
    have e1 : (i + 1) * (M + 2) = i * M + 2 * i + M + 2 := by grind
    have e2 : (i + 1) * M = i * M + M := by grind
    have e3 : i * (M + 2) = i * M + 2 * i := by grind
    show Bd _ _ (x * y + dot xs ys)
    have q := Bd.add h0 ih (N := N + i * M + 2 * i + M + 1) (by omega) (by rw [e3]; omega)
    refine q.mono (by rw [e1]; omega) (by rw [e2]; omega)
theorem bd_vm {n : Nat} {ws : List Rat} {B : List (List Rat)} (h : ∀ b ∈ B, b.length = n) (hw : ∀ x ∈ ws, Bd 400 40 x) (hB : ∀ b ∈ B, ∀ y ∈ b, Bd 400 40 y) (hl : ws.length ≤ 48) : ∀ q ∈ vm n ws B, Bd 5000 4000 q := by
  intro q hq
  rw [vm_as h] at hq
  obtain ⟨k, hk, rfl⟩ := List.mem_map.mp hq
  have hk' := List.mem_range.mp hk
  refine (bd_dot (N := 800) (M := 80) (i := 48) (fun x hx y hy => ?_) hl).mono (by decide) (by decide)
  obtain ⟨b, hb, rfl⟩ := List.mem_map.mp hy
  have e : b.getD k 0 ∈ b := by
    have hkb : k < b.length := by rw [h b hb]; exact hk'
    rw [List.getD_eq_getElem?_getD, List.getElem?_eq_getElem hkb]
    exact List.getElem_mem hkb
  exact (Bd.mul (hw x hx) (hB b hb _ e)).mono (by decide) (by decide)
theorem vm_step {n i : Nat} {ws : List Rat} {B : List (List Rat)} {w : Rat} {r : List Rat} (hl : ws.length = B.length) (hw : ws[i]? = some w) (hr : B[i]? = some r) : vm n (ws.take (i + 1)) (B.take (i + 1)) = addS (vm n (ws.take i) (B.take i)) w r := by
  unfold vm
  rw [List.take_add_one, List.take_add_one, hw, hr]
  exact comb_snoc (by rw [List.length_take, List.length_take, hl])
end Mt

set_option Elab.async false
set_option linter.all false
set_option maxRecDepth 100000
/-! ratios, vectors and matrices as data -/
namespace Ly
open PySem PySem.Spec PyProof.Rows L2 Mt
def rD (q : Rat) : PyData := .tuple [.int q.num, .int (q.den : Int)]
def vD (r : List Rat) : PyData := .tuple (r.map rD)
def mD (A : List (List Rat)) : PyData := .tuple (A.map vD)
section
variable {K : PySem.W.Frag} {H H' : Hp} {v : V}
theorem ity {a : Addr} {xs : List V} (h : ITup K H a xs) : TyX K H (.ref a) (.type "tuple") := by
  rcases h with h | ⟨o, its, n, hk, hc, _⟩
  · exact .base (.tup h)
  · exact .kTuple hk hc
theorem rat_inv {q : Rat} (h : Im K H v (rD q)) : ∃ p, v = .ref p ∧ ITup K H p [.int q.num, .int (q.den : Int)] := by
  obtain ⟨a, xs, rfl, h1, h2⟩ := h.tuple_inv
  obtain ⟨x, r, rfl, h3, h4⟩ := h2.cons_inv
  obtain ⟨y, r', rfl, h5, h6⟩ := h4.cons_inv
  rw [h6.nil_inv, h3.int_inv, h5.int_inv] at h1
  exact ⟨a, rfl, h1⟩
theorem rat_mk {q : Rat} {p : Addr} (h : ITup K H p [.int q.num, .int (q.den : Int)]) : Im K H (.ref p) (rD q) := .tup h (.cons (.int _) (.cons (.int _) .nil))
theorem vec_inv {r : List Rat} (h : Im K H v (vD r)) : ∃ p xs, v = .ref p ∧ ITup K H p xs ∧ ImAll K H xs (r.map rD) := h.tuple_inv
theorem mat_inv {A : List (List Rat)} (h : Im K H v (mD A)) : ∃ p xs, v = .ref p ∧ ITup K H p xs ∧ ImAll K H xs (A.map vD) := h.tuple_inv
theorem all_get {α : Type} {f : α → PyData} {xs : List V} {l : List α} {i : Nat} {x : V} (h : ImAll K H xs (l.map f)) (e : xs[i]? = some x) : ∃ a, l[i]? = some a ∧ Im K H x (f a) := by
  obtain ⟨d, h1, h2⟩ := h.getV e
  rw [List.getElem?_map] at h1
  cases hl : l[i]? with
  | none => rw [hl] at h1; simp at h1
  | some a =>
    rw [hl] at h1
    have : f a = d := by simpa using h1
    subst this
    exact ⟨a, rfl, h2⟩
theorem all_at {α : Type} {f : α → PyData} {xs : List V} {l : List α} {i : Nat} {a : α} (h : ImAll K H xs (l.map f)) (e : l[i]? = some a) : ∃ x, xs[i]? = some x ∧ Im K H x (f a) := h.get (by rw [List.getElem?_map, e]; rfl)
theorem all_len {α : Type} {f : α → PyData} {xs : List V} {l : List α} (h : ImAll K H xs (l.map f)) : xs.length = l.length := by rw [h.length, List.length_map]
theorem all_rep {α : Type} {f : α → PyData} {x : V} {a : α} (h : Im K H x (f a)) : ∀ n : Nat, ImAll K H (List.replicate n x) ((List.replicate n a).map f)
  | 0 => .nil
  | n + 1 => by
    rw [List.replicate_succ, List.replicate_succ, List.map_cons]
    exact .cons h (all_rep h n)
theorem flat1 {x : V} : ∀ n : Nat, (List.replicate n [x]).flatten = List.replicate n x
  | 0 => rfl
  | n + 1 => by
    rw [List.replicate_succ, List.flatten_cons, flat1 n]; rfl
/-- the parts so far, one more -/
theorem all_snoc {α : Type} {f : α → PyData} {xs : List V} {l : List α} {i : Nat} {a : α} {x : V} (h : ImAll K H xs ((l.take i).map f)) (e : l[i]? = some a) (r : Im K H x (f a)) : ImAll K H (xs ++ [x]) ((l.take (i + 1)).map f) := by
  rw [List.take_add_one, e, List.map_append]
  exact h.snoc r
end
end Ly

set_option linter.all false
/-! determinants by rows, as much of them as bounds the entries of reduced rows -/
namespace Dt
/-- the columns' signs by turns: what a row s and the minors F of the others make -/
def X {R : Type} [Zero R] [Mul R] [Sub R] (F : List (Nat → R) → R) (s : Nat) : List (Nat → R) → List (Nat → R) → R
  | _, [] => 0
  | pre, c :: post => c s * F (pre ++ post) - X F s (pre ++ [c]) post
def D {R : Type} [Zero R] [One R] [Mul R] [Sub R] : Nat → Nat → List (Nat → R) → R
  | 0, _, _ => 1
  | k + 1, s, cols => X (D k (s + 1)) s [] cols
abbrev Col := Nat → Rat
/-- linear at each place, upon lists of length k -/
def Lin (k : Nat) (F : List Col → Rat) : Prop := ∀ (l1 : List Col) (x : Col) (a : Rat) (y : Col) (l2 : List Col), l1.length + 1 + l2.length = k → F (l1 ++ (fun i => x i + a * y i) :: l2) = F (l1 ++ x :: l2) + a * F (l1 ++ y :: l2)
def Alt (k : Nat) (F : List Col → Rat) : Prop := ∀ (l1 : List Col) (x : Col) (l2 : List Col), l1.length + 2 + l2.length = k → F (l1 ++ x :: x :: l2) = 0
theorem X_lin_pre {k s : Nat} {F : List Col → Rat} (h : Lin k F) (x : Col) (a : Rat) (y : Col) (l1 : List Col) : ∀ (post l2 : List Col), l1.length + 1 + l2.length + post.length = k + 1 →
    X F s (l1 ++ (fun i => x i + a * y i) :: l2) post = X F s (l1 ++ x :: l2) post + a * X F s (l1 ++ y :: l2) post
  | [], l2, _ => by simp only [X]; grind
  | c :: post, l2, hl => by
    have ih := X_lin_pre (s := s) h x a y l1 post (l2 ++ [c]) (by simp at hl ⊢; omega)
    have e := h l1 x a y (l2 ++ post) (by simp at hl ⊢; omega)
    simp only [X, List.append_assoc, List.cons_append] at ih e ⊢
    rw [ih, e]; grind
theorem X_lin_post {k s : Nat} {F : List Col → Rat} (h : Lin k F) (x : Col) (a : Rat) (y : Col) (l2 : List Col) : ∀ (l1 pre : List Col), pre.length + l1.length + 1 + l2.length = k + 1 →
    X F s pre (l1 ++ (fun i => x i + a * y i) :: l2) = X F s pre (l1 ++ x :: l2) + a * X F s pre (l1 ++ y :: l2)
  | [], pre, hl => by
    have e := X_lin_pre (s := s) h x a y pre l2 [] (by simp at hl ⊢; omega)
    simp only [X, List.nil_append]
    rw [e]; grind
  | c :: l1, pre, hl => by
    have ih := X_lin_post (s := s) h x a y l2 l1 (pre ++ [c]) (by simp at hl ⊢; omega)
    have e := h (pre ++ l1) x a y l2 (by simp at hl ⊢; omega)
    simp only [X, List.append_assoc, List.cons_append] at ih e ⊢
    rw [ih, e]; grind
theorem X_alt_pre {k s : Nat} {F : List Col → Rat} (h : Alt k F) (x : Col) (l1 : List Col) : ∀ (post l2 : List Col), l1.length + 2 + l2.length + post.length = k + 1 → X F s (l1 ++ x :: x :: l2) post = 0
  | [], _, _ => rfl
  | c :: post, l2, hl => by
    have ih := X_alt_pre (s := s) h x l1 post (l2 ++ [c]) (by simp at hl ⊢; omega)
    have e := h l1 x (l2 ++ post) (by simp at hl ⊢; omega)
    simp only [X, List.append_assoc, List.cons_append] at ih e ⊢
    rw [ih, e]; grind
theorem X_alt_post {k s : Nat} {F : List Col → Rat} (h : Alt k F) (x : Col) (l2 : List Col) : ∀ (l1 pre : List Col), pre.length + l1.length + 2 + l2.length = k + 1 → X F s pre (l1 ++ x :: x :: l2) = 0
  | [], pre, hl => by
    have e := X_alt_pre (s := s) h x pre l2 [] (by simp at hl ⊢; omega)
    simp only [X, List.append_assoc, List.cons_append, List.nil_append] at e ⊢
    rw [e]; grind
  | c :: l1, pre, hl => by
    have ih := X_alt_post (s := s) h x l2 l1 (pre ++ [c]) (by simp at hl ⊢; omega)
    have e := h (pre ++ l1) x l2 (by simp at hl ⊢; omega)
    simp only [X, List.append_assoc, List.cons_append] at ih e ⊢
    rw [ih, e]; grind
theorem D_lin : ∀ (k s : Nat), Lin k (D k s)
  | 0, _ => fun _ _ _ _ _ h => by omega
  | k + 1, s => fun l1 x a y l2 h => X_lin_post (D_lin k (s + 1)) x a y l2 l1 [] (by simpa using h)
theorem D_alt : ∀ (k s : Nat), Alt k (D k s)
  | 0, _ => fun _ _ _ h => by omega
  | k + 1, s => fun l1 x l2 h => X_alt_post (D_alt k (s + 1)) x l2 l1 [] (by simpa using h)
theorem swap {k : Nat} {F : List Col → Rat} (h : Lin k F) (g : Alt k F) (l1 : List Col) (x y : Col) (l2 : List Col) (hl : l1.length + 2 + l2.length = k) : F (l1 ++ x :: y :: l2) = - F (l1 ++ y :: x :: l2) := by
  have e1 := g l1 (fun i => x i + 1 * y i) l2 hl
  have e2 := h l1 x 1 y ((fun i => x i + 1 * y i) :: l2) (by simp; omega)
  have e3 := h (l1 ++ [x]) x 1 y l2 (by simp; omega)
  have e4 := h (l1 ++ [y]) x 1 y l2 (by simp; omega)
  have e5 := g l1 x l2 hl
  have e6 := g l1 y l2 hl
  simp only [List.append_assoc, List.cons_append, List.nil_append] at e3 e4
  rw [e2, e3, e4, e5, e6] at e1
  grind
/-- a column that stands twice -/
theorem twice {k : Nat} {F : List Col → Rat} (h : Lin k F) (g : Alt k F) (x : Col) (l3 : List Col) : ∀ (l2 l1 : List Col), l1.length + 1 + l2.length + 1 + l3.length = k → F (l1 ++ x :: (l2 ++ x :: l3)) = 0
  | [], l1, hl => g l1 x l3 (by simp at hl; omega)
  | y :: l2, l1, hl => by
    have e := swap h g l1 x y (l2 ++ x :: l3) (by simp at hl ⊢; omega)
    have ih := twice h g x l3 l2 (l1 ++ [y]) (by simp at hl ⊢; omega)
    simp only [List.append_assoc, List.cons_append, List.nil_append] at ih e ⊢
    rw [e, ih]; grind
theorem zero_col {k : Nat} {F : List Col → Rat} (h : Lin k F) (l1 l2 : List Col) (hl : l1.length + 1 + l2.length = k) : F (l1 ++ (fun _ => (0 : Rat)) :: l2) = 0 := by
  have e := h l1 (fun _ => 0) 1 (fun _ => 0) l2 hl
  have e2 : (fun i : Nat => (0 : Rat) + 1 * 0) = fun _ => 0 := by funext i; grind
  rw [e2] at e
  grind
/-- a sum of multiples of columns -/
def mix : List (Rat × Col) → Col
  | [] => fun _ => 0
  | (a, c) :: r => fun i => mix r i + a * c i
theorem D_mix {k : Nat} {F : List Col → Rat} (h : Lin k F) (l1 l2 : List Col) (hl : l1.length + 1 + l2.length = k) : ∀ hc : List (Rat × Col), F (l1 ++ mix hc :: l2) = (hc.map fun p => p.1 * F (l1 ++ p.2 :: l2)).sum
  | [] => by
    show F (l1 ++ (fun _ => (0 : Rat)) :: l2) = _
    rw [zero_col h l1 l2 hl]; rfl
  | (a, c) :: r => by
    have ih := D_mix h l1 l2 hl r
    have e := h l1 (mix r) a c l2 hl
    show F (l1 ++ (fun i => mix r i + a * c i) :: l2) = _
    rw [e, ih, List.map_cons, List.sum_cons]; grind
/-- Cramer: the column that is a mix of the columns themselves -/
theorem cramer {k : Nat} {F : List Col → Rat} (h : Lin k F) (g : Alt k F) (h1 h2 : List (Rat × Col)) (a : Rat) (c : Col) (hl : h1.length + 1 + h2.length = k) :
    F (h1.map (·.2) ++ mix (h1 ++ (a, c) :: h2) :: h2.map (·.2)) = a * F (h1.map (·.2) ++ c :: h2.map (·.2)) := by
  rw [D_mix h _ _ (by simpa using hl), List.map_append, List.map_cons, List.sum_append, List.sum_cons]
  have z : ∀ l : List (Rat × Col), (∀ p ∈ l, F (h1.map (·.2) ++ p.2 :: h2.map (·.2)) = 0) → (l.map fun p => p.1 * F (h1.map (·.2) ++ p.2 :: h2.map (·.2))).sum = 0 := by
    intro l
    induction l with
    | nil => intro _; rfl
    | cons p r ih =>
      intro hp
      rw [List.map_cons, List.sum_cons, ih (fun q hq => hp q (List.mem_cons_of_mem _ hq)), hp p (List.mem_cons_self ..)]; grind
  have z1 := z h1 (fun p hp => by
    obtain ⟨u, v, e⟩ := List.append_of_mem hp
    rw [e] at hl
    rw [e, List.map_append, List.map_cons, List.append_assoc, List.cons_append]
    exact twice h g p.2 (h2.map (·.2)) (v.map (·.2)) (u.map (·.2)) (by simp at hl ⊢; omega))
  have z2 := z h2 (fun p hp => by
    obtain ⟨u, v, e⟩ := List.append_of_mem hp
    rw [e] at hl
    rw [e, List.map_append, List.map_cons]
    exact twice h g p.2 (v.map (·.2)) (u.map (·.2)) (h1.map (·.2)) (by simp at hl ⊢; omega))
  rw [z1, z2]; grind
/-- a last column that has something in the first row alone -/
theorem X_last {k s : Nat} {F : List Col → Rat} {e : Col} (z : ∀ l1 l2 : List Col, l1.length + 1 + l2.length = k → F (l1 ++ e :: l2) = 0) : ∀ (post pre : List Col), pre.length + post.length = k →
    X F s pre (post ++ [e]) = e s * F (pre ++ post) ∨ X F s pre (post ++ [e]) = - (e s * F (pre ++ post))
  | [], pre, _ => .inl (by simp only [X, List.nil_append]; grind)
  | c :: post, pre, hl => by
    have ih := X_last (s := s) z post (pre ++ [c]) (by simp at hl ⊢; omega)
    have e0 := z (pre ++ post) [] (by simp at hl ⊢; omega)
    simp only [List.append_assoc, List.cons_append, List.nil_append] at ih e0
    simp only [X, List.cons_append]
    rw [e0]
    rcases ih with h | h
    · right; rw [h]; grind
    · left; rw [h]; grind
/-! ### wholes -/
def up (c : Nat → Int) : Col := fun i => (c i : Rat)
theorem X_cast {F : List (Nat → Int) → Int} {G : List Col → Rat} (h : ∀ l, G (l.map up) = ((F l : Int) : Rat)) (s : Nat) : ∀ (post pre : List (Nat → Int)), X G s (pre.map up) (post.map up) = ((X F s pre post : Int) : Rat)
  | [], _ => by simp [X]
  | c :: post, pre => by
    have ih := X_cast h s post (pre ++ [c])
    have e := h (pre ++ post)
    simp only [List.map_append, List.map_cons, List.map_nil] at ih e
    simp only [X, List.map_cons, ih, e, up]
    rw [Rat.intCast_sub, Rat.intCast_mul]
theorem D_cast : ∀ (k s : Nat) (l : List (Nat → Int)), D k s (l.map up) = ((D k s l : Int) : Rat)
  | 0, _, _ => by simp [D]
  | k + 1, s, l => X_cast (fun l => D_cast k (s + 1) l) s l []
/-- the rows' sums of absolute values are at most A -/
def Small (A : Nat) (l : List (Nat → Int)) : Prop := ∀ i, (l.map fun c => (c i).natAbs).sum ≤ A
theorem Small.drop {A : Nat} {pre post : List (Nat → Int)} {c : Nat → Int} (h : Small A (pre ++ c :: post)) : Small A (pre ++ post) := fun i => by
  have := h i
  simp only [List.map_append, List.map_cons, List.sum_append, List.sum_cons] at this ⊢
  omega
theorem X_le {F : List (Nat → Int) → Int} {s A B : Nat} (h : ∀ l, Small A l → (F l).natAbs ≤ B) : ∀ (post pre : List (Nat → Int)), Small A (pre ++ post) → (X F s pre post).natAbs ≤ (post.map fun c => (c s).natAbs).sum * B
  | [], _, _ => by simp [X]
  | c :: post, pre, hs => by
    have ih := X_le (s := s) h post (pre ++ [c]) (by simpa using hs)
    have h1 := h (pre ++ post) hs.drop
    simp only [X, List.map_cons, List.sum_cons]
    have e1 : (c s * F (pre ++ post)).natAbs ≤ (c s).natAbs * B := by rw [Int.natAbs_mul]; exact Nat.mul_le_mul_left _ h1
    have e2 := Int.natAbs_sub_le (c s * F (pre ++ post)) (X F s (pre ++ [c]) post)
    rw [Nat.add_mul]
    omega
theorem D_le {A : Nat} : ∀ (k s : Nat) (l : List (Nat → Int)), Small A l → (D k s l).natAbs ≤ A ^ k
  | 0, _, _, _ => by simp [D]
  | k + 1, s, l, h => by
    have e := X_le (F := D k (s + 1)) (s := s) (A := A) (B := A ^ k) (fun l hl => D_le k (s + 1) l hl) l [] h
    have hs := h s
    show (X (D k (s + 1)) s [] l).natAbs ≤ A ^ (k + 1)
    rw [Nat.pow_succ, Nat.mul_comm]
    exact Nat.le_trans e (Nat.mul_le_mul_right _ hs)
end Dt

set_option linter.all false
set_option maxRecDepth 10000
/-! elimination: reduced rows, their bounds, what they tell -/
namespace El
open Mt Dt
abbrev Fn := Nat → Rat
/-- a sum over the held rows -/
def over (held : List (Nat × Fn)) (f : Nat × Fn → Rat) : Rat := (held.map f).sum
theorem over_nil (f : Nat × Fn → Rat) : over [] f = 0 := rfl
theorem over_cons (x : Nat × Fn) (h : List (Nat × Fn)) (f : Nat × Fn → Rat) : over (x :: h) f = f x + over h f := by
  unfold over; rw [List.map_cons, List.sum_cons]
theorem over_append (h k : List (Nat × Fn)) (f : Nat × Fn → Rat) : over (h ++ k) f = over h f + over k f := by
  unfold over; rw [List.map_append, List.sum_append]
theorem over_congr {h : List (Nat × Fn)} {f g : Nat × Fn → Rat} (e : ∀ x ∈ h, f x = g x) : over h f = over h g := by
  unfold over; rw [List.map_congr_left e]
theorem over_map (h : List (Nat × Fn)) (m : Nat × Fn → Nat × Fn) (f : Nat × Fn → Rat) : over (h.map m) f = over h fun x => f (m x) := by
  unfold over; rw [List.map_map]; rfl
theorem over_mul (h : List (Nat × Fn)) (a : Rat) (f : Nat × Fn → Rat) : over h (fun x => f x * a) = over h f * a := by
  induction h with
  | nil => rw [over_nil, over_nil, Rat.zero_mul]
  | cons x h ih => rw [over_cons, over_cons, ih]; grind
theorem over_add (h : List (Nat × Fn)) (f g : Nat × Fn → Rat) : over h (fun x => f x + g x) = over h f + over h g := by
  induction h with
  | nil => rw [over_nil, over_nil, over_nil]; grind
  | cons x h ih => rw [over_cons, over_cons, over_cons, ih]; grind
theorem over_sub (h : List (Nat × Fn)) (f g : Nat × Fn → Rat) : over h (fun x => f x - g x) = over h f - over h g := by
  induction h with
  | nil => rw [over_nil, over_nil, over_nil]; grind
  | cons x h ih => rw [over_cons, over_cons, over_cons, ih]; grind
theorem over_zero {h : List (Nat × Fn)} {f : Nat × Fn → Rat} (e : ∀ x ∈ h, f x = 0) : over h f = 0 := by
  induction h with
  | nil => rfl
  | cons x h ih => rw [over_cons, ih fun y hy => e y (List.mem_cons_of_mem _ hy), e x (List.mem_cons_self ..)]; grind
/-- the column q of the taken rows, times s -/
def col (s : Rat) (taken : List Fn) (q : Nat) : Col := fun j => s * (taken.getD j (fun _ => 0)) q
def lft (held : List (Nat × Fn)) (e : Fn) : Fn := fun q => e q - over held fun x => e x.1 * x.2 q
/-- what always holds of the held rows and of the rows that they were made of -/
structure Red (s : Rat) (E size : Nat) (held : List (Nat × Fn)) (taken : List Fn) : Prop where
  piv : ∀ x ∈ held, x.1 < size
  delta : ∀ (i j : Nat) (x y : Nat × Fn), held[i]? = some x → held[j]? = some y → x.2 y.1 = if i = j then 1 else 0
  len : taken.length = held.length
  span : ∀ t ∈ taken, ∀ q, t q = over held fun x => t x.1 * x.2 q
  det : D held.length 0 (held.map fun x => col s taken x.1) ≠ 0
  wholes : ∀ t ∈ taken, ∀ q, ∃ z : Int, s * t q = (z : Rat) ∧ z.natAbs ≤ E
/-- a sum over held rows at a pivot -/
theorem over_delta : ∀ (h : List (Nat × Fn)) (f : Nat × Fn → Rat) (j : Nat) (y : Nat × Fn), h[j]? = some y → (∀ (i : Nat) (x : Nat × Fn), h[i]? = some x → f x = if i = j then f y else 0) → over h f = f y
  | [], _, _, _, h, _ => by simp at h
  | x :: h, f, 0, y, e, k => by
    have e1 : x = y := by simpa using e
    rw [over_cons, over_zero (fun z hz => by
      obtain ⟨i, hi⟩ := List.mem_iff_getElem?.mp hz
      have := k (i + 1) z (by simpa using hi)
      simpa using this), e1]; grind
  | x :: h, f, j + 1, y, e, k => by
    have hx := k 0 x rfl
    rw [over_cons, over_delta h f j y (by simpa using e) (fun i z hz => by
      have := k (i + 1) z (by simpa using hz)
      simpa using this), hx, if_neg (by omega), Rat.zero_add]
theorem Red.at_piv {s : Rat} {E size : Nat} {held : List (Nat × Fn)} {taken : List Fn} (R : Red s E size held taken) (e : Fn) {j : Nat} {y : Nat × Fn} (hj : held[j]? = some y) : over held (fun x => e x.1 * x.2 y.1) = e y.1 := by
  rw [over_delta held (fun x => e x.1 * x.2 y.1) j y hj]
  · show e y.1 * y.2 y.1 = e y.1
    rw [R.delta j j y y hj hj, if_pos rfl]; grind
  · intro i x hx
    show e x.1 * x.2 y.1 = if i = j then e y.1 * y.2 y.1 else 0
    rw [R.delta i j x y hx hj]
    by_cases h : i = j
    · subst h
      rw [hx] at hj
      injection hj with e1
      subst e1
      rw [if_pos rfl, if_pos rfl, R.delta i i x x hx hx, if_pos rfl]
    · rw [if_neg h, if_neg h]; grind
theorem Red.lft_piv {s : Rat} {E size : Nat} {held : List (Nat × Fn)} {taken : List Fn} (R : Red s E size held taken) (e : Fn) {y : Nat × Fn} (hy : y ∈ held) : lft held e y.1 = 0 := by
  obtain ⟨j, hj⟩ := List.mem_iff_getElem?.mp hy
  unfold lft
  rw [R.at_piv e hj]; grind
theorem D_shift : ∀ (k s : Nat) (l : List Col), D k (s + 1) l = D k s (l.map fun c i => c (i + 1))
  | 0, _, _ => rfl
  | k + 1, s, l => by
    have key : ∀ (post pre : List Col), X (D k (s + 1 + 1)) (s + 1) pre post = X (D k (s + 1)) s (pre.map fun c i => c (i + 1)) (post.map fun c i => c (i + 1)) := by
      intro post
      induction post with
      | nil => intro pre; rfl
      | cons c post ih =>
        intro pre
        have e := ih (pre ++ [c])
        have e2 := D_shift k (s + 1) (pre ++ post)
        simp only [List.map_append, List.map_cons, List.map_nil] at e e2
        simp only [X, List.map_cons]
        rw [e, e2]
    exact key l []
/-- the held rows with one more -/
def grow (held : List (Nat × Fn)) (p : Nat) (l : Fn) : List (Nat × Fn) := held.map (fun x => (x.1, fun q => x.2 q - x.2 p * (l q / l p))) ++ [(p, fun q => l q / l p)]
theorem mix_map (h : List (Nat × Fn)) (f : Nat × Fn → Rat) (g : Nat × Fn → Col) (i : Nat) : mix (h.map fun x => (f x, g x)) i = over h fun x => g x i * f x := by
  induction h with
  | nil => rfl
  | cons x h ih =>
    rw [List.map_cons, over_cons]
    show mix _ i + f x * g x i = _
    rw [ih]; grind
theorem Red.step {s : Rat} {E size : Nat} {held : List (Nat × Fn)} {taken : List Fn} (R : Red s E size held taken) (hs : s ≠ 0) {e : Fn} (he : ∀ q, ∃ z : Int, s * e q = (z : Rat) ∧ z.natAbs ≤ E) {p : Nat} (hp : p < size) (h0 : lft held e p ≠ 0) : Red s E size (grow held p (lft held e)) (e :: taken) := by
  have hinv : lft held e p / lft held e p = 1 := by grind
  refine ⟨fun x hx => ?_, fun i j x y hi hj => ?_, ?_, fun t ht q => ?_, ?_, fun t ht => ?_⟩
  · rcases List.mem_append.mp hx with h | h
    · obtain ⟨y, hy, rfl⟩ := List.mem_map.mp h
      exact R.piv y hy
    · rw [List.mem_singleton.mp h]; exact hp
  · have hl : (held.map (fun x : Nat × Fn => (x.1, fun q => x.2 q - x.2 p * (lft held e q / lft held e p)))).length = held.length := List.length_map ..
    have get : ∀ (i : Nat) (x : Nat × Fn), (grow held p (lft held e))[i]? = some x → (∃ z, held[i]? = some z ∧ x = (z.1, fun q => z.2 q - z.2 p * (lft held e q / lft held e p))) ∨ (i = held.length ∧ x = (p, fun q => lft held e q / lft held e p)) := by
      intro i x h
      unfold grow at h
      by_cases hi : i < held.length
      · rw [List.getElem?_append_left (by omega), List.getElem?_map] at h
        cases hz : held[i]? with
        | none => rw [hz] at h; simp at h
        | some z => rw [hz] at h; exact .inl ⟨z, rfl, by simpa using h.symm⟩
      · rw [List.getElem?_append_right (by omega), hl] at h
        by_cases h2 : i - held.length = 0
        · rw [h2] at h
          exact .inr ⟨by omega, by simpa using h.symm⟩
        · obtain ⟨n, hn⟩ : ∃ n, i - held.length = n + 1 := ⟨i - held.length - 1, by omega⟩
          rw [hn] at h; simp at h
    have lt_of : ∀ {i : Nat} {z : Nat × Fn}, held[i]? = some z → i < held.length := fun h => (List.getElem?_eq_some_iff.mp h).1
    rcases get i x hi with ⟨z, hz, rfl⟩ | ⟨rfl, rfl⟩ <;> rcases get j y hj with ⟨w, hw, rfl⟩ | ⟨rfl, rfl⟩
    · show z.2 w.1 - z.2 p * (lft held e w.1 / lft held e p) = _
      rw [R.lft_piv e (List.mem_of_getElem? hw), R.delta i j z w hz hw]; grind
    · show z.2 p - z.2 p * (lft held e p / lft held e p) = _
      rw [hinv, if_neg (by have := lt_of hz; omega)]; grind
    · show lft held e w.1 / lft held e p = _
      rw [R.lft_piv e (List.mem_of_getElem? hw), if_neg (by have := lt_of hw; omega)]; grind
    · show lft held e p / lft held e p = _
      rw [hinv, if_pos rfl]
  · unfold grow; simp [R.len]
  · -- each taken row is made of the new held ones
    have key : ∀ t : Fn, over (grow held p (lft held e)) (fun x => t x.1 * x.2 q) = over held (fun x => t x.1 * x.2 q) + (t p - over held fun x => t x.1 * x.2 p) * (lft held e q / lft held e p) := by
      intro t
      unfold grow
      rw [over_append, over_map, over_cons, over_nil]
      show over held (fun x => t x.1 * (x.2 q - x.2 p * (lft held e q / lft held e p))) + (t p * (lft held e q / lft held e p) + 0) = _
      have e1 : over held (fun x => t x.1 * (x.2 q - x.2 p * (lft held e q / lft held e p))) = over held (fun x => t x.1 * x.2 q) - over held (fun x => t x.1 * x.2 p) * (lft held e q / lft held e p) := by
        rw [← over_mul, ← over_sub]
        refine over_congr fun x _ => ?_
        grind
      rw [e1]; grind
    rw [key t]
    rcases List.mem_cons.mp ht with rfl | ht
    · have e2 : t p - (over held fun x => t x.1 * x.2 p) = lft held t p := rfl
      have e3 : lft held t q = t q - over held fun x => t x.1 * x.2 q := rfl
      rw [e2]
      have e4 : lft held t p * (lft held t q / lft held t p) = lft held t q := by grind
      rw [e4, e3]; grind
    · rw [← R.span t ht p, ← R.span t ht q]; grind
  · -- the determinant
    have lg : (grow held p (lft held e)).length = held.length + 1 := by unfold grow; simp
    rw [lg]
    have cols : (grow held p (lft held e)).map (fun x => col s (e :: taken) x.1) = (held.map fun x => col s (e :: taken) x.1) ++ [col s (e :: taken) p] := by
      unfold grow; rw [List.map_append, List.map_map]; rfl
    rw [cols]
    let ee : Col := fun j => if j = 0 then s * lft held e p else 0
    have cs : col s (e :: taken) p = fun i => mix (held.map fun x => (x.2 p, col s (e :: taken) x.1)) i + 1 * ee i := by
      funext i
      rw [mix_map]
      cases i with
      | zero =>
        show s * e p = over held (fun x => s * e x.1 * x.2 p) + 1 * (s * lft held e p)
        have e1 : over held (fun x => s * e x.1 * x.2 p) = s * over held fun x => e x.1 * x.2 p := by
          rw [show (s * over held fun x => e x.1 * x.2 p) = (over held fun x => e x.1 * x.2 p) * s by grind, ← over_mul]
          refine over_congr fun x _ => ?_
          grind
        rw [e1]
        show _ = _ + 1 * (s * (e p - over held fun x => e x.1 * x.2 p))
        grind
      | succ i =>
        show s * (taken.getD i fun _ => 0) p = over held (fun x => s * (taken.getD i fun _ => 0) x.1 * x.2 p) + 1 * 0
        have e1 : ∀ t : Fn, over held (fun x => s * t x.1 * x.2 p) = s * over held fun x => t x.1 * x.2 p := by
          intro t
          rw [show (s * over held fun x => t x.1 * x.2 p) = (over held fun x => t x.1 * x.2 p) * s by grind, ← over_mul]
          refine over_congr fun x _ => ?_
          grind
        rw [e1]
        by_cases hi : i < taken.length
        · have hm : (taken.getD i fun _ => 0) ∈ taken := by
            rw [List.getD_eq_getElem?_getD, List.getElem?_eq_getElem hi]; exact List.getElem_mem hi
          rw [← R.span _ hm p]; grind
        · rw [List.getD_eq_getElem?_getD, List.getElem?_eq_none (by omega)]
          rw [over_zero (fun x _ => by show (0 : Rat) * x.2 p = 0; grind)]
          show s * (0 : Rat) = _
          grind
    have L := D_lin (held.length + 1) 0
    have G := D_alt (held.length + 1) 0
    have lc : (held.map fun x => col s (e :: taken) x.1).length = held.length := List.length_map ..
    rw [cs, L _ _ 1 ee [] (by rw [lc]; rfl), D_mix L _ [] (by rw [lc]; rfl)]
    have zs : ((held.map fun x => (x.2 p, col s (e :: taken) x.1)).map fun pr => pr.1 * D (held.length + 1) 0 ((held.map fun x => col s (e :: taken) x.1) ++ pr.2 :: [])).sum = 0 := by
      have z : ∀ l : List (Nat × Fn), (∀ x ∈ l, x ∈ held) → ((l.map fun x => (x.2 p, col s (e :: taken) x.1)).map fun pr => pr.1 * D (held.length + 1) 0 ((held.map fun x => col s (e :: taken) x.1) ++ pr.2 :: [])).sum = 0 := by
        intro l
        induction l with
        | nil => intro _; rfl
        | cons x r ih =>
          intro hx
          rw [List.map_cons, List.map_cons, List.sum_cons, ih fun y hy => hx y (List.mem_cons_of_mem _ hy)]
          obtain ⟨u, v, ev⟩ := List.append_of_mem (hx x (List.mem_cons_self ..))
          have tw := twice L G (col s (e :: taken) x.1) [] (v.map fun x => col s (e :: taken) x.1) (u.map fun x => col s (e :: taken) x.1) (by rw [ev]; simp; omega)
          have ec : (held.map fun x => col s (e :: taken) x.1) ++ [col s (e :: taken) x.1] = (u.map fun x => col s (e :: taken) x.1) ++ col s (e :: taken) x.1 :: ((v.map fun x => col s (e :: taken) x.1) ++ [col s (e :: taken) x.1]) := by
            rw [ev]; simp
          show x.2 p * D (held.length + 1) 0 ((held.map fun x => col s (e :: taken) x.1) ++ [col s (e :: taken) x.1]) + 0 = 0
          rw [ec, tw]; grind
      exact z held fun x h => h
    rw [zs]
    have shf : (held.map fun x => col s (e :: taken) x.1).map (fun (c : Col) i => c (i + 1)) = held.map fun x => col s taken x.1 := by
      rw [List.map_map]; rfl
    have zee : ∀ l1 l2 : List Col, l1.length + 1 + l2.length = held.length → D held.length (0 + 1) (l1 ++ ee :: l2) = 0 := by
      intro l1 l2 hl
      rw [D_shift, List.map_append, List.map_cons]
      have : (fun i => ee (i + 1)) = fun _ => (0 : Rat) := by funext i; rfl
      rw [this]
      exact zero_col (D_lin held.length 0) _ _ (by simpa using hl)
    have lst := X_last (s := 0) (F := D held.length (0 + 1)) (e := ee) zee (held.map fun x => col s (e :: taken) x.1) [] (by simp)
    have ed : D held.length (0 + 1) ([] ++ held.map fun x => col s (e :: taken) x.1) = D held.length 0 (held.map fun x => col s taken x.1) := by
      rw [List.nil_append, D_shift, shf]
    rw [ed] at lst
    have e0 : ee 0 = s * lft held e p := rfl
    rw [e0] at lst
    have nz : s * lft held e p * D held.length 0 (held.map fun x => col s taken x.1) ≠ 0 := by
      have := R.det
      intro h
      rcases Rat.mul_eq_zero.mp h with h | h
      · rcases Rat.mul_eq_zero.mp h with h | h
        · exact hs h
        · exact h0 h
      · exact this h
    show 0 + 1 * X (D held.length (0 + 1)) 0 [] ((held.map fun x => col s (e :: taken) x.1) ++ [ee]) ≠ 0
    rcases lst with h | h <;> rw [h] <;> grind
  · rcases List.mem_cons.mp ht with rfl | ht
    · exact he
    · exact R.wholes t ht
theorem Red.start {s : Rat} {E size : Nat} : Red s E size [] [] := by
  refine ⟨fun x hx => by simp at hx, fun i j x y hi => by simp at hi, rfl, fun t ht => by simp at ht, ?_, fun t ht => by simp at ht⟩
  show (1 : Rat) ≠ 0
  decide

/-! ### bounds -/
theorem bd_of {x : Rat} {d z : Int} {n m : Nat} (h : x * (d : Rat) = (z : Rat)) (hd : d ≠ 0) (hz : z.natAbs < 2 ^ n) (hm : d.natAbs < 2 ^ m) : Bd n m x := by
  have dr : (d : Rat) ≠ 0 := by
    intro e
    exact hd (Rat.intCast_inj.mp (by simpa using e))
  have ex : x = Rat.divInt z d := by
    rw [Rat.divInt_eq_div]
    grind
  by_cases h0 : 0 < d
  · rw [ex]; exact bd_divInt h0 hz hm
  · have e2 : Rat.divInt z d = Rat.divInt (-z) (-d) := by
      exact (Rat.divInt_eq_divInt_iff (by omega) (by omega)).mpr (by rw [Int.mul_neg, Int.neg_mul])
    rw [ex, e2]
    exact bd_divInt (by omega) (by omega) (by omega)
theorem small_of {A k : Nat} {l : List (Nat → Int)} (hl : l.length ≤ k) (h : ∀ c ∈ l, ∀ i, (c i).natAbs ≤ A) : Small (k * A) l := by
  intro i
  have : ∀ l : List (Nat → Int), (∀ c ∈ l, ∀ i, (c i).natAbs ≤ A) → (l.map fun c => (c i).natAbs).sum ≤ l.length * A := by
    intro l
    induction l with
    | nil => intro _; simp
    | cons c r ih =>
      intro hc
      rw [List.map_cons, List.sum_cons, List.length_cons, Nat.add_mul]
      have h1 := ih fun x hx => hc x (List.mem_cons_of_mem _ hx)
      have h2 := hc c (List.mem_cons_self ..) i
      omega
  exact Nat.le_trans (this l h) (Nat.mul_le_mul_right _ hl)
theorem pick {α : Type} (P : Nat → α → Prop) (h : ∀ q, ∃ z, P q z) : ∃ f : Nat → α, ∀ q, P q (f q) := ⟨fun q => (h q).choose, fun q => (h q).choose_spec⟩
/-- the columns are of wholes -/
theorem Red.icol {s : Rat} {E size : Nat} {held : List (Nat × Fn)} {taken : List Fn} (R : Red s E size held taken) : ∃ f : Nat → Nat → Int, (∀ q, col s taken q = up (f q)) ∧ ∀ q i, (f q i).natAbs ≤ E := by
  have h1 : ∀ q i, ∃ z : Int, col s taken q i = (z : Rat) ∧ z.natAbs ≤ E := by
    intro q i
    unfold col
    by_cases hi : i < taken.length
    · have hm : (taken.getD i fun _ => 0) ∈ taken := by
        rw [List.getD_eq_getElem?_getD, List.getElem?_eq_getElem hi]; exact List.getElem_mem hi
      exact R.wholes _ hm q
    · rw [List.getD_eq_getElem?_getD, List.getElem?_eq_none (by omega)]
      exact ⟨0, by show s * (0 : Rat) = _; simp, Nat.zero_le _⟩
  refine ⟨fun q i => (h1 q i).choose, fun q => ?_, fun q i => (h1 q i).choose_spec.2⟩
  funext i
  exact (h1 q i).choose_spec.1
/-- all entries of held rows have one small denominator -/
theorem Red.bound {s : Rat} {E size m : Nat} {held : List (Nat × Fn)} {taken : List Fn} (R : Red s E size held taken) (hm : held.length ≤ m) (hE : 1 ≤ E) (h1 : 1 ≤ m) : ∃ d : Int, d ≠ 0 ∧ d.natAbs ≤ (m * E) ^ m ∧ ∀ x ∈ held, ∀ q, ∃ z : Int, x.2 q * (d : Rat) = (z : Rat) ∧ z.natAbs ≤ (m * E) ^ m := by
  obtain ⟨f, hf, bf⟩ := R.icol
  have A1 : 1 ≤ m * E := Nat.mul_le_mul h1 hE
  have pw : (m * E) ^ held.length ≤ (m * E) ^ m := Nat.pow_le_pow_right A1 hm
  have eC : (held.map fun x => col s taken x.1) = (held.map fun x => f x.1).map up := by
    rw [List.map_map]; exact List.map_congr_left fun x _ => hf x.1
  have dC := R.det
  rw [eC, D_cast] at dC
  refine ⟨D held.length 0 (held.map fun x => f x.1), fun h => dC (by rw [h]; rfl), ?_, fun x hx q => ?_⟩
  · refine Nat.le_trans (D_le held.length 0 _ (small_of (k := m) (A := E) (by simpa using hm) ?_)) pw
    intro c hc i
    obtain ⟨y, _, rfl⟩ := List.mem_map.mp hc
    exact bf y.1 i
  · obtain ⟨u, v, ev⟩ := List.append_of_mem hx
    have mx : col s taken q = mix ((u.map fun y => (y.2 q, col s taken y.1)) ++ (x.2 q, col s taken x.1) :: (v.map fun y => (y.2 q, col s taken y.1))) := by
      have e0 : (u.map fun y => (y.2 q, col s taken y.1)) ++ (x.2 q, col s taken x.1) :: (v.map fun y => (y.2 q, col s taken y.1)) = held.map fun y => (y.2 q, col s taken y.1) := by rw [ev]; simp
      rw [e0]
      funext i
      rw [mix_map]
      have e1 : ∀ t : Fn, over held (fun x => s * t x.1 * x.2 q) = s * over held fun x => t x.1 * x.2 q := by
        intro t
        rw [show (s * over held fun x => t x.1 * x.2 q) = (over held fun x => t x.1 * x.2 q) * s by grind, ← over_mul]
        refine over_congr fun x _ => ?_
        grind
      show s * (taken.getD i fun _ => 0) q = over held (fun x => s * (taken.getD i fun _ => 0) x.1 * x.2 q)
      rw [e1]
      by_cases hi : i < taken.length
      · have hm : (taken.getD i fun _ => 0) ∈ taken := by
          rw [List.getD_eq_getElem?_getD, List.getElem?_eq_getElem hi]; exact List.getElem_mem hi
        rw [← R.span _ hm q]
      · rw [List.getD_eq_getElem?_getD, List.getElem?_eq_none (by omega)]
        rw [over_zero (fun x _ => by show (0 : Rat) * x.2 q = 0; grind)]
        show s * (0 : Rat) = s * 0
        rfl
    have cr := cramer (D_lin held.length 0) (D_alt held.length 0) (u.map fun y => (y.2 q, col s taken y.1)) (v.map fun y => (y.2 q, col s taken y.1)) (x.2 q) (col s taken x.1) (by rw [ev]; simp; omega)
    rw [← mx] at cr
    have e1 : (List.map (fun p : Rat × Col => p.2) (u.map fun y => (y.2 q, col s taken y.1))) ++ col s taken x.1 :: (List.map (fun p : Rat × Col => p.2) (v.map fun y => (y.2 q, col s taken y.1))) = held.map fun y => col s taken y.1 := by rw [ev]; simp; rfl
    rw [e1, eC, D_cast] at cr
    have e2 : (List.map (fun p : Rat × Col => p.2) (u.map fun y => (y.2 q, col s taken y.1))) ++ col s taken q :: (List.map (fun p : Rat × Col => p.2) (v.map fun y => (y.2 q, col s taken y.1))) = ((u.map fun y => f y.1) ++ f q :: (v.map fun y => f y.1)).map up := by
      simp [List.map_map, hf]; rfl
    rw [e2, D_cast] at cr
    refine ⟨_, cr.symm, Nat.le_trans (D_le held.length 0 _ (small_of (k := m) (A := E) ?_ ?_)) pw⟩
    · rw [ev] at hm; simp at hm ⊢; omega
    · intro c hc i
      rcases List.mem_append.mp hc with h | h
      · obtain ⟨y, _, rfl⟩ := List.mem_map.mp h
        exact bf y.1 i
      · rcases List.mem_cons.mp h with rfl | h
        · exact bf q i
        · obtain ⟨y, _, rfl⟩ := List.mem_map.mp h
          exact bf y.1 i
/-- what is left, with some of the held rows, has a small denominator too -/
theorem lft_bound {s : Int} {E B m : Nat} {part : List (Nat × Fn)} {e : Fn} {d : Int} (hm : part.length ≤ m) (hd : ∀ x ∈ part, ∀ q, ∃ z : Int, x.2 q * (d : Rat) = (z : Rat) ∧ z.natAbs ≤ B) (dB : d.natAbs ≤ B) (he : ∀ q, ∃ z : Int, (s : Rat) * e q = (z : Rat) ∧ z.natAbs ≤ E) (q : Nat) :
    ∃ z : Int, lft part e q * ((s * d : Int) : Rat) = (z : Rat) ∧ z.natAbs ≤ (m + 1) * (E * B) := by
  obtain ⟨ze, h1, h2⟩ := he q
  have key : ∀ part : List (Nat × Fn), (∀ x ∈ part, ∀ q, ∃ z : Int, x.2 q * (d : Rat) = (z : Rat) ∧ z.natAbs ≤ B) → ∃ z : Int, (over part fun x => e x.1 * x.2 q) * ((s * d : Int) : Rat) = (z : Rat) ∧ z.natAbs ≤ part.length * (E * B) := by
    intro part
    induction part with
    | nil => intro _; exact ⟨0, by rw [over_nil]; simp, Nat.zero_le _⟩
    | cons x r ih =>
      intro hx
      obtain ⟨z1, e1, b1⟩ := ih fun y hy => hx y (List.mem_cons_of_mem _ hy)
      obtain ⟨z2, e2, b2⟩ := hx x (List.mem_cons_self ..) q
      obtain ⟨z3, e3, b3⟩ := he x.1
      refine ⟨z3 * z2 + z1, ?_, ?_⟩
      · rw [over_cons]
        simp only [Rat.intCast_mul, Rat.intCast_add] at e1 ⊢
        rw [← e1, ← e2, ← e3]; grind
      · have a1 := Int.natAbs_add_le (z3 * z2) z1
        rw [Int.natAbs_mul] at a1
        have a2 := Nat.mul_le_mul b3 b2
        rw [List.length_cons, Nat.add_mul]
        omega
  obtain ⟨z1, e1, b1⟩ := key part hd
  refine ⟨ze * d - z1, ?_, ?_⟩
  · unfold lft
    simp only [Rat.intCast_mul, Rat.intCast_sub] at e1 ⊢
    rw [← e1, ← h1]; grind
  · have a1 := Int.natAbs_sub_le (ze * d) z1
    rw [Int.natAbs_mul] at a1
    have a2 := Nat.mul_le_mul h2 dB
    have a3 : part.length * (E * B) ≤ m * (E * B) := Nat.mul_le_mul_right _ hm
    rw [Nat.add_mul]
    omega
end El

set_option linter.all false
set_option maxRecDepth 10000
/-! elimination upon lists, as the program does it -/
namespace El
open Mt Dt
def fn (r : List Rat) : Fn := fun q => r.getD q 0
theorem fn_get {r : List Rat} {q : Nat} {x : Rat} (h : r[q]? = some x) : fn r q = x := by
  unfold fn; rw [List.getD_eq_getElem?_getD, h]; rfl
theorem fn_none {r : List Rat} {q : Nat} (h : r.length ≤ q) : fn r q = 0 := by
  unfold fn; rw [List.getD_eq_getElem?_getD, List.getElem?_eq_none h]; rfl
theorem get_fn {r : List Rat} {q : Nat} (h : q < r.length) : r[q]? = some (fn r q) := by
  unfold fn; rw [List.getD_eq_getElem?_getD, List.getElem?_eq_getElem h]; rfl
def sub (e : List Rat) (f : Rat) (r : List Rat) : List Rat := List.zipWith (fun o t => o - f * t) e r
theorem sub_length {e r : List Rat} {f : Rat} (h : e.length = r.length) : (sub e f r).length = e.length := by
  unfold sub; rw [List.length_zipWith]; omega
theorem sub_get {e r : List Rat} {f : Rat} {q : Nat} {a b : Rat} (ha : e[q]? = some a) (hb : r[q]? = some b) : (sub e f r)[q]? = some (a - f * b) := by
  unfold sub; rw [List.getElem?_zipWith, ha, hb]
theorem fn_sub {e r : List Rat} {f : Rat} (h : e.length = r.length) : fn (sub e f r) = fun q => fn e q - f * fn r q := by
  funext q
  by_cases hq : q < e.length
  · rw [fn_get (sub_get (f := f) (get_fn hq) (get_fn (show q < r.length by omega)))]
  · rw [fn_none (by rw [sub_length h]; omega), fn_none (r := e) (by omega), fn_none (r := r) (by omega)]; grind
theorem sub_zero {e r : List Rat} (h : e.length = r.length) : sub e 0 r = e := by
  apply List.ext_getElem?
  intro q
  by_cases hq : q < e.length
  · rw [sub_get (f := 0) (get_fn hq) (get_fn (show q < r.length by omega)), get_fn hq]
    congr 1; grind
  · rw [List.getElem?_eq_none (by rw [sub_length h]; omega), List.getElem?_eq_none (by omega)]
abbrev HL := List (Nat × List Rat)
def fh (h : HL) : List (Nat × Fn) := h.map fun x => (x.1, fn x.2)
def clr : List Rat → HL → List Rat
  | e, [] => e
  | e, (p, r) :: h => clr (sub e (fn e p) r) h
theorem clr_length : ∀ {h : HL} {e : List Rat}, (∀ x ∈ h, x.2.length = e.length) → (clr e h).length = e.length
  | [], _, _ => rfl
  | (p, r) :: h, e, hl => by
    have h0 := hl (p, r) (List.mem_cons_self ..)
    have e1 := sub_length (f := fn e p) h0.symm
    show (clr (sub e (fn e p) r) h).length = e.length
    rw [clr_length (fun x hx => by rw [e1]; exact hl x (List.mem_cons_of_mem _ hx)), e1]
theorem clr_snoc : ∀ {h : HL} {e : List Rat} {p : Nat} {r : List Rat}, clr e (h ++ [(p, r)]) = sub (clr e h) (fn (clr e h) p) r
  | [], _, _, _ => rfl
  | (q, t) :: h, e, p, r => by
    show clr (sub e (fn e q) t) (h ++ [(p, r)]) = sub (clr (sub e (fn e q) t) h) (fn (clr (sub e (fn e q) t) h) p) r
    exact clr_snoc
theorem clr_fn : ∀ {h : HL} {e : List Rat}, (∀ x ∈ h, x.2.length = e.length) → h.Pairwise (fun x y => fn x.2 y.1 = 0) → fn (clr e h) = lft (fh h) (fn e)
  | [], e, _, _ => by
    funext q
    show fn e q = fn e q - over [] _
    rw [over_nil]; grind
  | (p, r) :: h, e, hl, hp => by
    have h0 := hl (p, r) (List.mem_cons_self ..)
    have e1 := sub_length (f := fn e p) h0.symm
    rw [List.pairwise_cons] at hp
    have ih := clr_fn (h := h) (e := sub e (fn e p) r) (fun x hx => by rw [e1]; exact hl x (List.mem_cons_of_mem _ hx)) hp.2
    funext q
    show fn (clr (sub e (fn e p) r) h) q = _
    rw [ih, fn_sub h0.symm]
    show fn e q - fn e p * fn r q - over (fh h) (fun x => (fn e x.1 - fn e p * fn r x.1) * x.2 q) = fn e q - over ((p, fn r) :: fh h) (fun x => fn e x.1 * x.2 q)
    rw [over_cons]
    have e2 : over (fh h) (fun x => (fn e x.1 - fn e p * fn r x.1) * x.2 q) = over (fh h) (fun x => fn e x.1 * x.2 q) := by
      refine over_congr fun x hx => ?_
      obtain ⟨y, hy, rfl⟩ := List.mem_map.mp hx
      have := hp.1 y hy
      show (fn e y.1 - fn e p * fn r y.1) * _ = _
      rw [this]; grind
    rw [e2]; grind
/-- the first place below size that is not 0 -/
def first (e : List Rat) (size : Nat) : Option Nat := (List.range size).find? fun p => decide (fn e p ≠ 0)
theorem first_none {e : List Rat} {size : Nat} (h : first e size = none) : ∀ q, q < size → fn e q = 0 := fun q hq => by
  have := List.find?_eq_none.mp h q (List.mem_range.mpr hq)
  simpa using this
theorem first_some {e : List Rat} {size p : Nat} (h : first e size = some p) : p < size ∧ fn e p ≠ 0 := by
  have h1 := List.find?_some h
  have h2 := List.mem_of_find?_eq_some h
  exact ⟨List.mem_range.mp h2, by simpa using h1⟩
def nrm (l : List Rat) (p : Nat) : List Rat := l.map fun x => x / fn l p
def tin (held : HL) (e : List Rat) (size : Nat) : HL :=
  match first (clr e held) size with
  | none => held
  | some p => held.map (fun x => (x.1, sub x.2 (fn x.2 p) (nrm (clr e held) p))) ++ [(p, nrm (clr e held) p)]
theorem nrm_length {l : List Rat} {p : Nat} : (nrm l p).length = l.length := List.length_map ..
theorem fn_nrm {l : List Rat} {p : Nat} : fn (nrm l p) = fun q => fn l q / fn l p := by
  funext q
  by_cases hq : q < l.length
  · have : (nrm l p)[q]? = some (fn l q / fn l p) := by unfold nrm; rw [List.getElem?_map, get_fn hq]; rfl
    rw [fn_get this]
  · rw [fn_none (by rw [nrm_length]; omega), fn_none (r := l) (by omega)]; grind
/-- reduced rows upon lists -/
structure RL (s : Rat) (E size N : Nat) (held : HL) (taken : List Fn) : Prop where
  red : Red s E size (fh held) taken
  len : ∀ x ∈ held, x.2.length = N
theorem RL.pw {s : Rat} {E size N : Nat} {held : HL} {taken : List Fn} (R : RL s E size N held taken) : held.Pairwise (fun x y => fn x.2 y.1 = 0) := by
  rw [List.pairwise_iff_getElem]
  intro i j hi hj hij
  have hd := R.red.delta i j (held[i].1, fn held[i].2) (held[j].1, fn held[j].2) (by unfold fh; rw [List.getElem?_map, List.getElem?_eq_getElem hi]; rfl) (by unfold fh; rw [List.getElem?_map, List.getElem?_eq_getElem hj]; rfl)
  rw [if_neg (by omega)] at hd
  exact hd
theorem RL.clr_fn {s : Rat} {E size N : Nat} {held : HL} {taken : List Fn} (R : RL s E size N held taken) {e : List Rat} (he : e.length = N) : fn (clr e held) = lft (fh held) (fn e) :=
  El.clr_fn (fun x hx => by rw [R.len x hx, he]) R.pw
theorem RL.clr_len {s : Rat} {E size N : Nat} {held : HL} {taken : List Fn} (R : RL s E size N held taken) {e : List Rat} (he : e.length = N) : (clr e held).length = N := by
  rw [clr_length (fun x hx => by rw [R.len x hx, he]), he]
theorem RL.step {s : Rat} {E size N : Nat} {held : HL} {taken : List Fn} (R : RL s E size N held taken) (hs : s ≠ 0) {e : List Rat} (hl : e.length = N) (he : ∀ q, ∃ z : Int, s * fn e q = (z : Rat) ∧ z.natAbs ≤ E) : ∃ taken', RL s E size N (tin held e size) taken' := by
  unfold tin
  cases hf : first (clr e held) size with
  | none => exact ⟨taken, R⟩
  | some p =>
    have h := first_some hf
    rw [R.clr_fn hl] at h
    have st := R.red.step hs he h.1 h.2
    refine ⟨fn e :: taken, ?_, fun x hx => ?_⟩
    · have eq : fh (held.map (fun x => (x.1, sub x.2 (fn x.2 p) (nrm (clr e held) p))) ++ [(p, nrm (clr e held) p)]) = grow (fh held) p (lft (fh held) (fn e)) := by
        unfold fh grow
        rw [List.map_append, List.map_map, List.map_map]
        congr 1
        · refine List.map_congr_left fun x hx => ?_
          show (x.1, fn (sub x.2 (fn x.2 p) (nrm (clr e held) p))) = _
          rw [fn_sub (by rw [nrm_length, R.clr_len hl, R.len x hx]), fn_nrm, R.clr_fn hl]
          rfl
        · show [(p, fn (nrm (clr e held) p))] = _
          rw [fn_nrm, R.clr_fn hl]
          rfl
      rw [eq]
      exact st
    · rcases List.mem_append.mp hx with h | h
      · obtain ⟨y, hy, rfl⟩ := List.mem_map.mp h
        rw [sub_length (by rw [nrm_length, R.clr_len hl, R.len y hy]), R.len y hy]
      · rw [List.mem_singleton.mp h, nrm_length, R.clr_len hl]
theorem RL.start {s : Rat} {E size N : Nat} : RL s E size N [] [] := ⟨Red.start, fun x hx => by simp at hx⟩
/-- what the given rows come to, one by one -/
def tins (size : Nat) : List (List Rat) → HL → HL
  | [], held => held
  | e :: es, held => tins size es (tin held e size)
theorem tins_snoc (size : Nat) : ∀ (es : List (List Rat)) (e : List Rat) (held : HL), tins size (es ++ [e]) held = tin (tins size es held) e size
  | [], _, _ => rfl
  | _ :: es, e, held => tins_snoc size es e _
theorem tin_length {held : HL} {e : List Rat} {size : Nat} : (tin held e size).length ≤ held.length + 1 := by
  unfold tin
  split <;> simp
theorem tins_length {size : Nat} : ∀ {es : List (List Rat)} {held : HL}, (tins size es held).length ≤ held.length + es.length
  | [], _ => by simp [tins]
  | e :: es, held => by
    have h1 := tins_length (size := size) (es := es) (held := tin held e size)
    have h2 := tin_length (held := held) (e := e) (size := size)
    show (tins size es (tin held e size)).length ≤ _
    rw [List.length_cons]; omega
theorem tins_red {s : Rat} {E size N : Nat} (hs : s ≠ 0) : ∀ {es : List (List Rat)} {held : HL} {taken : List Fn}, RL s E size N held taken → (∀ e ∈ es, e.length = N ∧ ∀ q, ∃ z : Int, s * fn e q = (z : Rat) ∧ z.natAbs ≤ E) → ∃ taken', RL s E size N (tins size es held) taken'
  | [], _, taken, R, _ => ⟨taken, R⟩
  | e :: es, held, taken, R, h => by
    have h0 := h e (List.mem_cons_self ..)
    obtain ⟨t', R'⟩ := R.step hs h0.1 h0.2
    exact tins_red (es := es) (held := tin held e size) hs R' fun x hx => h x (List.mem_cons_of_mem _ hx)
/-! ### linear laws of what is held -/
/-- a linear property: closed under sums of multiples -/
structure Closed (W : Fn → Prop) : Prop where
  mix : ∀ a b f, W a → W b → W (fun q => a q - f * b q)
  div : ∀ a f, W a → W (fun q => a q / f)
theorem clr_closed {V W : Fn → Prop} (c : ∀ a b f, V a → W b → V (fun q => a q - f * b q)) : ∀ {h : HL} {e : List Rat}, (∀ x ∈ h, x.2.length = e.length) → (∀ x ∈ h, W (fn x.2)) → V (fn e) → V (fn (clr e h))
  | [], _, _, _, w => w
  | (p, r) :: h, e, hl, hw, w => by
    have h0 := hl (p, r) (List.mem_cons_self ..)
    have e1 := sub_length (f := fn e p) h0.symm
    refine clr_closed c (h := h) (e := sub e (fn e p) r) (fun x hx => by rw [e1]; exact hl x (List.mem_cons_of_mem _ hx)) (fun x hx => hw x (List.mem_cons_of_mem _ hx)) ?_
    rw [fn_sub h0.symm]
    exact c _ _ _ w (hw (p, r) (List.mem_cons_self ..))
theorem tin_closed {W : Fn → Prop} (c : Closed W) {N size : Nat} {held : HL} {e : List Rat} (hl : ∀ x ∈ held, x.2.length = N) (he : e.length = N) (hw : ∀ x ∈ held, W (fn x.2)) (we : W (fn e)) : ∀ x ∈ tin held e size, W (fn x.2) := by
  unfold tin
  have wl := clr_closed c.mix (h := held) (e := e) (fun x hx => by rw [hl x hx, he]) hw we
  have ll : (clr e held).length = N := by rw [clr_length (fun x hx => by rw [hl x hx, he]), he]
  split
  · exact hw
  · rename_i p hp
    have wn : W (fn (nrm (clr e held) p)) := by rw [fn_nrm]; exact c.div _ _ wl
    intro x hx
    rcases List.mem_append.mp hx with h | h
    · obtain ⟨y, hy, rfl⟩ := List.mem_map.mp h
      show W (fn (sub y.2 _ _))
      rw [fn_sub (by rw [nrm_length, ll, hl y hy])]
      exact c.mix _ _ _ (hw y hy) wn
    · rw [List.mem_singleton.mp h]; exact wn
theorem tin_len {N size : Nat} {held : HL} {e : List Rat} (hl : ∀ x ∈ held, x.2.length = N) (he : e.length = N) : ∀ x ∈ tin held e size, x.2.length = N := by
  unfold tin
  have ll : (clr e held).length = N := by rw [clr_length (fun x hx => by rw [hl x hx, he]), he]
  split
  · exact hl
  · intro x hx
    rcases List.mem_append.mp hx with h | h
    · obtain ⟨y, hy, rfl⟩ := List.mem_map.mp h
      rw [sub_length (by rw [nrm_length, ll, hl y hy]), hl y hy]
    · rw [List.mem_singleton.mp h, nrm_length, ll]
theorem tins_closed {W : Fn → Prop} (c : Closed W) {N size : Nat} : ∀ {es : List (List Rat)} {held : HL}, (∀ x ∈ held, x.2.length = N) → (∀ x ∈ held, W (fn x.2)) → (∀ e ∈ es, e.length = N ∧ W (fn e)) → ∀ x ∈ tins size es held, W (fn x.2)
  | [], _, _, hw, _ => hw
  | e :: es, held, hl, hw, h => by
    have h0 := h e (List.mem_cons_self ..)
    exact tins_closed c (es := es) (held := tin held e size) (tin_len hl h0.1) (tin_closed c hl h0.1 hw h0.2) fun x hx => h x (List.mem_cons_of_mem _ hx)
/-- a linear functional that asks the places below size alone -/
structure LinF (size : Nat) (g : Fn → Rat) : Prop where
  mix : ∀ a b f, g (fun q => a q - f * b q) = g a - f * g b
  div : ∀ a f, g (fun q => a q / f) = g a / f
  low : ∀ a, (∀ q, q < size → a q = 0) → g a = 0
theorem clr_lin {size : Nat} {g : Fn → Rat} (c : LinF size g) : ∀ {h : HL} {e : List Rat}, (∀ x ∈ h, x.2.length = e.length) → (∀ x ∈ h, g (fn x.2) = 0) → g (fn (clr e h)) = g (fn e)
  | [], _, _, _ => rfl
  | (p, r) :: h, e, hl, hw => by
    have h0 := hl (p, r) (List.mem_cons_self ..)
    have e1 := sub_length (f := fn e p) h0.symm
    have ih := clr_lin c (h := h) (e := sub e (fn e p) r) (fun x hx => by rw [e1]; exact hl x (List.mem_cons_of_mem _ hx)) (fun x hx => hw x (List.mem_cons_of_mem _ hx))
    have e2 := hw (p, r) (List.mem_cons_self ..)
    show g (fn (clr (sub e (fn e p) r) h)) = g (fn e)
    rw [ih, fn_sub h0.symm, c.mix, e2]; grind
theorem tin_kills {size N : Nat} {g : Fn → Rat} (c : LinF size g) {held : HL} {e : List Rat} (hl : ∀ x ∈ held, x.2.length = N) (he : e.length = N) (k : ∀ x ∈ tin held e size, g (fn x.2) = 0) : (∀ x ∈ held, g (fn x.2) = 0) ∧ g (fn e) = 0 := by
  have hl' : ∀ x ∈ held, x.2.length = e.length := fun x hx => by rw [hl x hx, he]
  have ll : (clr e held).length = N := by rw [clr_length hl', he]
  unfold tin at k
  cases hf : first (clr e held) size with
  | none =>
    rw [hf] at k
    exact ⟨k, by rw [← clr_lin c hl' k]; exact c.low _ (first_none hf)⟩
  | some p =>
    rw [hf] at k
    have kn := k (p, nrm (clr e held) p) (List.mem_append_right _ (List.mem_singleton.mpr rfl))
    have h0 := (first_some hf).2
    have kl : g (fn (clr e held)) = 0 := by
      have : g (fn (nrm (clr e held) p)) = 0 := kn
      rw [fn_nrm, c.div] at this
      grind
    have kh : ∀ x ∈ held, g (fn x.2) = 0 := by
      intro x hx
      have := k (x.1, sub x.2 (fn x.2 p) (nrm (clr e held) p)) (List.mem_append_left _ (List.mem_map.mpr ⟨x, hx, rfl⟩))
      have e1 : g (fn (sub x.2 (fn x.2 p) (nrm (clr e held) p))) = 0 := this
      rw [fn_sub (by rw [nrm_length, ll, hl x hx]), c.mix] at e1
      have e2 : g (fn (nrm (clr e held) p)) = 0 := kn
      rw [e2] at e1
      grind
    exact ⟨kh, by rw [← clr_lin c hl' kh]; exact kl⟩
theorem tins_kills {size N : Nat} {g : Fn → Rat} (c : LinF size g) : ∀ {es : List (List Rat)} {held : HL}, (∀ x ∈ held, x.2.length = N) → (∀ e ∈ es, e.length = N) → (∀ x ∈ tins size es held, g (fn x.2) = 0) → (∀ x ∈ held, g (fn x.2) = 0) ∧ ∀ e ∈ es, g (fn e) = 0
  | [], _, _, _, k => ⟨k, fun e he => by simp at he⟩
  | e :: es, held, hl, h, k => by
    have h0 := h e (List.mem_cons_self ..)
    have ih := tins_kills c (es := es) (held := tin held e size) (tin_len hl h0) (fun x hx => h x (List.mem_cons_of_mem _ hx)) k
    have i2 := tin_kills c hl h0 ih.1
    exact ⟨i2.1, fun x hx => (List.mem_cons.mp hx).elim (fun z => by rw [z]; exact i2.2) (ih.2 x)⟩
/-! ### what is told -/
def sumf (n : Nat) (f : Nat → Rat) : Rat := ((List.range n).map f).sum
theorem sumf_zero (f : Nat → Rat) : sumf 0 f = 0 := rfl
theorem sumf_succ (n : Nat) (f : Nat → Rat) : sumf (n + 1) f = sumf n f + f n := by
  unfold sumf
  rw [List.range_succ, List.map_append, List.sum_append, List.map_cons, List.map_nil, List.sum_cons, List.sum_nil, Rat.add_zero]
theorem sumf_congr {n : Nat} {f g : Nat → Rat} (h : ∀ q, q < n → f q = g q) : sumf n f = sumf n g := by
  unfold sumf
  rw [List.map_congr_left fun q hq => h q (List.mem_range.mp hq)]
theorem sumf_lin {n : Nat} (f g : Nat → Rat) (a : Rat) : sumf n (fun q => f q - a * g q) = sumf n f - a * sumf n g := by
  induction n with
  | zero => rw [sumf_zero, sumf_zero, sumf_zero]; grind
  | succ n ih => rw [sumf_succ, sumf_succ, sumf_succ, ih]; grind
theorem sumf_div {n : Nat} (f : Nat → Rat) (a : Rat) : sumf n (fun q => f q / a) = sumf n f / a := by
  induction n with
  | zero => rw [sumf_zero, sumf_zero]; grind
  | succ n ih => rw [sumf_succ, sumf_succ, ih]; grind
theorem sumf_all_zero {n : Nat} {f : Nat → Rat} (h : ∀ q, q < n → f q = 0) : sumf n f = 0 := by
  induction n with
  | zero => rfl
  | succ n ih => rw [sumf_succ, ih fun q hq => h q (by omega), h n (by omega)]; grind
theorem sumf_shift (n : Nat) (f : Nat → Rat) : sumf (n + 1) f = f 0 + sumf n fun q => f (q + 1) := by
  induction n with
  | zero => rw [sumf_succ, sumf_zero, sumf_zero]; grind
  | succ n ih => rw [sumf_succ, ih, sumf_succ]; grind
theorem dot_sumf : ∀ {xs ys : List Rat}, xs.length = ys.length → dot xs ys = sumf xs.length fun q => fn xs q * fn ys q
  | [], [], _ => by rw [dot_nil]; rfl
  | x :: xs, y :: ys, h => by
    have ih := dot_sumf (xs := xs) (ys := ys) (by simpa using h)
    show x * y + dot xs ys = sumf (xs.length + 1) _
    rw [sumf_shift, ih]
    rfl
  | [], _ :: _, h => by simp at h
  | _ :: _, [], h => by simp at h
/-- one more at a place -/
theorem sumf_point {n p : Nat} (hp : p < n) (f : Nat → Rat) (a : Rat) : sumf n (fun q => if q = p then a else f q) = sumf n f + (a - f p) := by
  induction n with
  | zero => omega
  | succ n ih =>
    rw [sumf_succ, sumf_succ]
    by_cases h : p = n
    · subst h
      have : sumf p (fun q => if q = p then a else f q) = sumf p f := sumf_congr fun q hq => by rw [if_neg (by omega)]
      rw [this, if_pos rfl]; grind
    · rw [ih (by omega), if_neg (by omega)]; grind
/-- the row with its unit behind -/
def unitL (i n : Nat) : List Rat := (List.range n).map fun q => if q = i then 1 else 0
theorem unitL_length {i n : Nat} : (unitL i n).length = n := by unfold unitL; simp
theorem fn_unitL {i n q : Nat} (h : q < n) : fn (unitL i n) q = if q = i then 1 else 0 := by
  have : (unitL i n)[q]? = some (if q = i then 1 else 0) := by unfold unitL; rw [List.getElem?_map, List.getElem?_range h]; rfl
  exact fn_get this
theorem fn_app_left {a b : List Rat} {q : Nat} (h : q < a.length) : fn (a ++ b) q = fn a q := by
  unfold fn; rw [List.getD_eq_getElem?_getD, List.getD_eq_getElem?_getD, List.getElem?_append_left h]
theorem fn_app_right {a b : List Rat} {q : Nat} : fn (a ++ b) (a.length + q) = fn b q := by
  unfold fn; rw [List.getD_eq_getElem?_getD, List.getD_eq_getElem?_getD, List.getElem?_append_right (by omega), Nat.add_sub_cancel_left]
def exts (rows : List (List Rat)) : List (List Rat) := (List.range rows.length).map fun i => rows.getD i [] ++ unitL i rows.length
/-- what a solver holds of rows -/
def solved (rows : List (List Rat)) (size : Nat) : HL := tins size (exts rows) []
def leftOf (rows : List (List Rat)) (size : Nat) (target : List Rat) : List Rat := clr (target ++ List.replicate rows.length 0) (solved rows size)
section
variable {rows : List (List Rat)} {size : Nat} (hr : ∀ r ∈ rows, r.length = size)
include hr
theorem exts_len : ∀ e ∈ exts rows, e.length = size + rows.length := by
  intro e he
  obtain ⟨i, hi, rfl⟩ := List.mem_map.mp he
  have hi' := List.mem_range.mp hi
  have hm : rows.getD i [] ∈ rows := by rw [List.getD_eq_getElem?_getD, List.getElem?_eq_getElem hi']; exact List.getElem_mem hi'
  rw [List.length_append, unitL_length, hr _ hm]
theorem solved_len : ∀ x ∈ solved rows size, x.2.length = size + rows.length := by
  have : ∀ {es : List (List Rat)} {held : HL}, (∀ x ∈ held, x.2.length = size + rows.length) → (∀ e ∈ es, e.length = size + rows.length) → ∀ x ∈ tins size es held, x.2.length = size + rows.length := by
    intro es
    induction es with
    | nil => intro held h _; exact h
    | cons e es ih =>
      intro held h he
      exact ih (tin_len h (he e (List.mem_cons_self ..))) fun x hx => he x (List.mem_cons_of_mem _ hx)
  exact this (fun x hx => by simp at hx) (exts_len hr)
/-- each held row is, below size, the sum of the rows times its entries from size on -/
theorem solved_made : ∀ x ∈ solved rows size, ∀ k, k < size → fn x.2 k = sumf rows.length fun i => fn x.2 (size + i) * fn (rows.getD i []) k := by
  have c : Closed (fun f => ∀ k, k < size → f k = sumf rows.length fun i => f (size + i) * fn (rows.getD i []) k) := by
    refine ⟨fun a b f ha hb k hk => ?_, fun a f ha k hk => ?_⟩
    · show a k - f * b k = _
      rw [ha k hk, hb k hk, ← sumf_lin]
      refine sumf_congr fun i _ => ?_
      grind
    · show a k / f = _
      rw [ha k hk, ← sumf_div]
      refine sumf_congr fun i _ => ?_
      grind
  refine tins_closed c (N := size + rows.length) (held := []) (fun x hx => by simp at hx) (fun x hx => by simp at hx) fun e he => ⟨exts_len hr e he, fun k hk => ?_⟩
  obtain ⟨i, hi, rfl⟩ := List.mem_map.mp he
  have hi' := List.mem_range.mp hi
  have hm : rows.getD i [] ∈ rows := by rw [List.getD_eq_getElem?_getD, List.getElem?_eq_getElem hi']; exact List.getElem_mem hi'
  have hl := hr _ hm
  rw [fn_app_left (by omega)]
  have e1 : (sumf rows.length fun j => fn (rows.getD i [] ++ unitL i rows.length) (size + j) * fn (rows.getD j []) k) = sumf rows.length fun j => if j = i then fn (rows.getD i []) k else 0 := by
    refine sumf_congr fun j hj => ?_
    have : fn (rows.getD i [] ++ unitL i rows.length) (size + j) = fn (unitL i rows.length) j := by rw [← hl]; exact fn_app_right
    rw [this, fn_unitL hj]
    by_cases h : j = i
    · rw [if_pos h, if_pos h, h]; grind
    · rw [if_neg h, if_neg h]; grind
  rw [e1, sumf_point hi', sumf_all_zero (fun _ _ => rfl)]; grind
/-- made: the weights make the target -/
theorem made_ok {target : List Rat} (ht : target.length = size) (h : first (leftOf rows size target) size = none) (k : Nat) (hk : k < size) :
    dot (((leftOf rows size target).drop size).map fun x => -x) (Mt.col rows k) = fn target k := by
  have hl : (target ++ List.replicate rows.length (0 : Rat)).length = size + rows.length := by simp [ht]
  have ll : (leftOf rows size target).length = size + rows.length := by
    unfold leftOf; rw [clr_length (fun x hx => by rw [solved_len hr x hx, hl]), hl]
  have aff := clr_closed (V := fun f => ∀ k, k < size → f k - fn target k = sumf rows.length fun i => f (size + i) * fn (rows.getD i []) k) (W := fun f => ∀ k, k < size → f k = sumf rows.length fun i => f (size + i) * fn (rows.getD i []) k)
    (fun a b f ha hb k hk => by
      show a k - f * b k - fn target k = _
      have e1 := ha k hk
      have e2 := hb k hk
      have e3 := sumf_lin (n := rows.length) (fun i => a (size + i) * fn (rows.getD i []) k) (fun i => b (size + i) * fn (rows.getD i []) k) f
      have e4 : (sumf rows.length fun i => (a (size + i) - f * b (size + i)) * fn (rows.getD i []) k) = sumf rows.length fun q => a (size + q) * fn (rows.getD q []) k - f * (b (size + q) * fn (rows.getD q []) k) := sumf_congr fun i _ => by grind
      rw [e4, e3, ← e1, ← e2]; grind)
    (h := solved rows size) (e := target ++ List.replicate rows.length 0) (fun x hx => by rw [solved_len hr x hx, hl]) (solved_made hr)
    (fun k hk => by
      rw [fn_app_left (by omega), sumf_all_zero (fun i hi => by
        have : fn (target ++ List.replicate rows.length 0) (size + i) = 0 := by
          rw [← ht, fn_app_right]
          exact fn_get (by rw [List.getElem?_replicate, if_pos hi])
        rw [this]; grind)]
      grind)
  have z := aff k hk
  have z0 := first_none h k hk
  have ld : (((leftOf rows size target).drop size).map fun x => -x).length = (Mt.col rows k).length := by
    unfold Mt.col; rw [List.length_map, List.length_drop, List.length_map]; omega
  rw [dot_sumf ld]
  have e1 : (((leftOf rows size target).drop size).map fun x => -x).length = rows.length := by rw [List.length_map, List.length_drop]; omega
  rw [e1]
  have e2 : (sumf rows.length fun q => fn (((leftOf rows size target).drop size).map fun x => -x) q * fn (Mt.col rows k) q) = - sumf rows.length fun i => fn (leftOf rows size target) (size + i) * fn (rows.getD i []) k := by
    have e3 : (sumf rows.length fun q => fn (((leftOf rows size target).drop size).map fun x => -x) q * fn (Mt.col rows k) q) = sumf rows.length fun q => 0 - 1 * (fn (leftOf rows size target) (size + q) * fn (rows.getD q []) k) := by
      refine sumf_congr fun i hi => ?_
      have a1 : fn (((leftOf rows size target).drop size).map fun x => -x) i = - fn (leftOf rows size target) (size + i) := by
        refine fn_get ?_
        rw [List.getElem?_map, List.getElem?_drop, get_fn (by omega)]; rfl
      have a2 : fn (Mt.col rows k) i = fn (rows.getD i []) k := by
        refine fn_get ?_
        unfold Mt.col
        rw [List.getElem?_map, List.getD_eq_getElem?_getD, List.getElem?_eq_getElem hi]; rfl
      rw [a1, a2]; grind
    rw [e3, sumf_lin, sumf_all_zero (fun _ _ => rfl)]; grind
  rw [e2]
  have z1 : fn (leftOf rows size target) k - fn target k = sumf rows.length fun i => fn (leftOf rows size target) (size + i) * fn (rows.getD i []) k := z
  rw [← z1, z0]; grind
end
/-- the marks, held row by held row -/
def mkf (l : List Rat) (place : Nat) : HL → Nat → Rat
  | [], q => if q = place then 1 / fn l place else 0
  | x :: h, q => if q = x.1 then -(fn x.2 place) / fn l place else mkf l place h q
def marksL (l : List Rat) (place size : Nat) (h : HL) : List Rat := (List.range size).map (mkf l place h)
theorem mkf_other {l : List Rat} {place q : Nat} (hq : q ≠ place) : ∀ {h : HL}, (∀ x ∈ h, q ≠ x.1) → mkf l place h q = 0
  | [], _ => if_neg hq
  | x :: h, k => by
    show (if q = x.1 then _ else mkf l place h q) = 0
    rw [if_neg (k x (List.mem_cons_self ..))]
    exact mkf_other hq fun y hy => k y (List.mem_cons_of_mem _ hy)
theorem mkf_sum {l : List Rat} {place size : Nat} (hp : place < size) (f : Fn) : ∀ {h : HL}, (∀ x ∈ h, x.1 < size ∧ x.1 ≠ place) → (h.map (·.1)).Nodup → (sumf size fun q => mkf l place h q * f q) = (1 / fn l place) * (f place - over (fh h) fun x => x.2 place * f x.1)
  | [], _, _ => by
    have : (sumf size fun q => mkf l place [] q * f q) = sumf size fun q => if q = place then (1 / fn l place) * f place else 0 := by
      refine sumf_congr fun q _ => ?_
      show (if q = place then 1 / fn l place else 0) * f q = _
      by_cases h : q = place
      · rw [if_pos h, if_pos h, h]
      · rw [if_neg h, if_neg h]; grind
    rw [this, sumf_point hp, sumf_all_zero (fun _ _ => rfl)]
    show _ = (1 / fn l place) * (f place - over [] _)
    rw [over_nil]; grind
  | x :: h, k, nd => by
    rw [List.map_cons, List.nodup_cons] at nd
    have ih := mkf_sum (l := l) hp f (h := h) (fun y hy => k y (List.mem_cons_of_mem _ hy)) nd.2
    have hx := k x (List.mem_cons_self ..)
    have mx : mkf l place h x.1 = 0 := mkf_other hx.2 fun y hy e => nd.1 (by rw [e]; exact List.mem_map.mpr ⟨y, hy, rfl⟩)
    have e1 : (sumf size fun q => mkf l place (x :: h) q * f q) = sumf size fun q => if q = x.1 then (-(fn x.2 place) / fn l place) * f x.1 else mkf l place h q * f q := by
      refine sumf_congr fun q _ => ?_
      show (if q = x.1 then _ else mkf l place h q) * f q = _
      by_cases h : q = x.1
      · rw [if_pos h, if_pos h, h]
      · rw [if_neg h, if_neg h]
    rw [e1, sumf_point hx.1, ih, mx]
    show _ = (1 / fn l place) * (f place - over ((x.1, fn x.2) :: fh h) _)
    rw [over_cons]
    show _ = (1 / fn l place) * (f place - (fn x.2 place * f x.1 + over (fh h) _))
    grind
end El

set_option linter.all false
set_option maxRecDepth 10000
namespace El
open Mt Dt
theorem over_reverse (h : List (Nat × Fn)) (f : Nat × Fn → Rat) : over h.reverse f = over h f := by
  induction h with
  | nil => rfl
  | cons x h ih =>
    rw [List.reverse_cons, over_append, over_cons, over_nil, over_cons, ih]; grind
theorem fh_reverse (h : HL) : fh h.reverse = (fh h).reverse := by
  unfold fh; rw [List.map_reverse]
theorem fh_take (h : HL) (j : Nat) : fh (h.take j) = (fh h).take j := by
  unfold fh; rw [List.map_take]
/-- rows whose multiples by s are wholes that are not too great -/
structure Okay (s : Int) (E m size : Nat) (rows : List (List Rat)) : Prop where
  s0 : s ≠ 0
  sE : s.natAbs ≤ E
  len : ∀ r ∈ rows, r.length = size
  wholes : ∀ r ∈ rows, ∀ q, ∃ z : Int, (s : Rat) * fn r q = (z : Rat) ∧ z.natAbs ≤ E
  few : rows.length ≤ m
  m1 : 1 ≤ m
  E1 : 1 ≤ E
section
variable {s : Int} {E m size : Nat} {rows : List (List Rat)} (O : Okay s E m size rows)
include O
theorem Okay.sr : (s : Rat) ≠ 0 := fun e => O.s0 (Rat.intCast_inj.mp (by simpa using e))
theorem Okay.ext_ints : ∀ e ∈ exts rows, e.length = size + rows.length ∧ ∀ q, ∃ z : Int, (s : Rat) * fn e q = (z : Rat) ∧ z.natAbs ≤ E := by
  intro e he
  refine ⟨exts_len O.len e he, fun q => ?_⟩
  obtain ⟨i, hi, rfl⟩ := List.mem_map.mp he
  have hi' := List.mem_range.mp hi
  have hm : rows.getD i [] ∈ rows := by rw [List.getD_eq_getElem?_getD, List.getElem?_eq_getElem hi']; exact List.getElem_mem hi'
  have hl := O.len _ hm
  by_cases h1 : q < size
  · rw [fn_app_left (by omega)]
    exact O.wholes _ hm q
  · obtain ⟨j, rfl⟩ : ∃ j, q = (rows.getD i []).length + j := ⟨q - (rows.getD i []).length, by omega⟩
    rw [fn_app_right]
    by_cases h2 : j < rows.length
    · rw [fn_unitL h2]
      by_cases h3 : j = i
      · rw [if_pos h3]; exact ⟨s, by grind, O.sE⟩
      · rw [if_neg h3]; exact ⟨0, by simp, Nat.zero_le _⟩
    · rw [fn_none (by rw [unitL_length]; omega)]
      exact ⟨0, by simp, Nat.zero_le _⟩
/-- what is held behind the first i rows -/
theorem Okay.stage (i : Nat) : ∃ taken, RL (s : Rat) E size (size + rows.length) (tins size ((exts rows).take i) []) taken :=
  tins_red O.sr RL.start fun e he => O.ext_ints e (List.mem_of_mem_take he)
theorem exts_length : (exts rows).length = rows.length := by unfold exts; simp
theorem Okay.stage_few (i : Nat) : (tins size ((exts rows).take i) []).length ≤ m := by
  have h := tins_length (size := size) (es := (exts rows).take i) (held := [])
  have h2 : ((exts rows).take i).length ≤ rows.length := by rw [List.length_take, exts_length O]; omega
  have h3 := O.few
  rw [List.length_nil, Nat.zero_add] at h
  omega
theorem Okay.whole : ∃ taken, RL (s : Rat) E size (size + rows.length) (solved rows size) taken := by
  have := O.stage rows.length
  rw [List.take_of_length_le (by rw [exts_length O]; omega)] at this
  exact this
end
/-- all entries of held rows are bounded -/
theorem RL.bd {s : Rat} {E size N m b : Nat} {held : HL} {taken : List Fn} (R : RL s E size N held taken) (hm : held.length ≤ m) (hE : 1 ≤ E) (h1 : 1 ≤ m) (hb : (m * E) ^ m < 2 ^ b) : ∀ x ∈ held, ∀ q, Bd b b (fn x.2 q) := by
  obtain ⟨d, d0, dB, h⟩ := R.red.bound (m := m) (by unfold fh; rw [List.length_map]; exact hm) hE h1
  intro x hx q
  obtain ⟨z, e, zB⟩ := h (x.1, fn x.2) (List.mem_map.mpr ⟨x, hx, rfl⟩) q
  exact bd_of e d0 (by omega) (by omega)
theorem fn_mem {r : List Rat} {y : Rat} (h : y ∈ r) : ∃ q, y = fn r q := by
  obtain ⟨i, hi⟩ := List.mem_iff_getElem?.mp h
  exact ⟨i, (fn_get hi).symm⟩
/-- and what is left of a row, behind the first j of them -/
theorem RL.part {s : Rat} {s' : Int} {E E' size N m b c : Nat} {held : HL} {taken : List Fn} (R : RL s E size N held taken) (hm : held.length ≤ m) (hE : 1 ≤ E) (h1 : 1 ≤ m) {e : List Rat} (he : e.length = N) (s0 : s' ≠ 0)
    (hi : ∀ q, ∃ z : Int, (s' : Rat) * fn e q = (z : Rat) ∧ z.natAbs ≤ E') (hc : (m + 1) * (E' * (m * E) ^ m) < 2 ^ c) (hd : s'.natAbs * (m * E) ^ m < 2 ^ c) (j : Nat) : ∀ q, Bd c c (fn (clr e (held.take j)) q) := by
  obtain ⟨d, d0, dB, h⟩ := R.red.bound (m := m) (by unfold fh; rw [List.length_map]; exact hm) hE h1
  intro q
  have hl : ∀ x ∈ held.take j, x.2.length = e.length := fun x hx => by rw [R.len x (List.mem_of_mem_take hx), he]
  have hp : (held.take j).Pairwise (fun x y => fn x.2 y.1 = 0) := R.pw.sublist (List.take_sublist j held)
  rw [El.clr_fn hl hp]
  obtain ⟨z, ez, zB⟩ := lft_bound (s := s') (E := E') (B := (m * E) ^ m) (m := m) (part := fh (held.take j)) (e := fn e) (d := d) (by unfold fh; rw [List.length_map, List.length_take]; omega)
    (fun x hx => by
      rw [fh_take] at hx
      exact h x (List.mem_of_mem_take hx)) dB hi q
  refine bd_of ez ?_ (by omega) ?_
  · intro e0
    rcases Int.mul_eq_zero.mp e0 with h | h
    · exact s0 h
    · exact d0 h
  · rw [Int.natAbs_mul]
    exact Nat.lt_of_le_of_lt (Nat.mul_le_mul_left _ dB) hd
/-- apart: the marks are 0 with each row and 1 with the target -/
theorem apart_ok {s : Int} {E m size : Nat} {rows : List (List Rat)} (O : Okay s E m size rows) {target : List Rat} (ht : target.length = size) {place : Nat} (h : first (leftOf rows size target) size = some place) :
    (∀ r ∈ rows, dot (marksL (leftOf rows size target) place size (solved rows size).reverse) r = 0) ∧ dot (marksL (leftOf rows size target) place size (solved rows size).reverse) target = 1 := by
  obtain ⟨taken, R⟩ := O.whole
  have hf := first_some h
  have hl : (target ++ List.replicate rows.length (0 : Rat)).length = size + rows.length := by simp [ht]
  have eL : fn (leftOf rows size target) = lft (fh (solved rows size)) (fn (target ++ List.replicate rows.length 0)) := R.clr_fn hl
  have piv : ∀ x ∈ (solved rows size).reverse, x.1 < size ∧ x.1 ≠ place := by
    intro x hx
    have hx' : (x.1, fn x.2) ∈ fh (solved rows size) := List.mem_map.mpr ⟨x, List.mem_reverse.mp hx, rfl⟩
    refine ⟨R.red.piv _ hx', fun e => hf.2 ?_⟩
    rw [← e, eL]
    exact R.red.lft_piv _ hx'
  have nd : ((solved rows size).reverse.map (·.1)).Nodup := by
    rw [List.map_reverse]
    refine (List.reverse_perm _).nodup_iff.mpr ?_
    rw [List.Nodup, List.pairwise_map, List.pairwise_iff_getElem]
    intro i j hi hj hij e
    have d1 := R.red.delta i j _ _ (show (fh (solved rows size))[i]? = some ((solved rows size)[i].1, fn (solved rows size)[i].2) by unfold fh; rw [List.getElem?_map, List.getElem?_eq_getElem hi]; rfl) (show (fh (solved rows size))[j]? = some ((solved rows size)[j].1, fn (solved rows size)[j].2) by unfold fh; rw [List.getElem?_map, List.getElem?_eq_getElem hj]; rfl)
    have d2 := R.red.delta i i _ _ (show (fh (solved rows size))[i]? = some ((solved rows size)[i].1, fn (solved rows size)[i].2) by unfold fh; rw [List.getElem?_map, List.getElem?_eq_getElem hi]; rfl) (show (fh (solved rows size))[i]? = some ((solved rows size)[i].1, fn (solved rows size)[i].2) by unfold fh; rw [List.getElem?_map, List.getElem?_eq_getElem hi]; rfl)
    rw [if_neg (by omega)] at d1
    rw [if_pos rfl] at d2
    have e' : (solved rows size)[i].1 = (solved rows size)[j].1 := e
    simp only at d1 d2
    rw [← e', d2] at d1
    exact absurd d1 (by decide)
  let g : Fn → Rat := fun f => sumf size fun q => mkf (leftOf rows size target) place (solved rows size).reverse q * f q
  have gv : ∀ f : Fn, g f = (1 / fn (leftOf rows size target) place) * (f place - over (fh (solved rows size)) fun x => x.2 place * f x.1) := by
    intro f
    have := mkf_sum (l := leftOf rows size target) hf.1 f piv nd
    rw [fh_reverse, over_reverse] at this
    exact this
  have lg : LinF size g := by
    refine ⟨fun a b f => ?_, fun a f => ?_, fun a ha => ?_⟩
    · show (sumf size fun q => _ * (a q - f * b q)) = _
      rw [← sumf_lin]
      exact sumf_congr fun q _ => by grind
    · show (sumf size fun q => _ * (a q / f)) = _
      rw [← sumf_div]
      exact sumf_congr fun q _ => by grind
    · exact sumf_all_zero fun q hq => by rw [ha q hq]; grind
  have kh : ∀ x ∈ solved rows size, g (fn x.2) = 0 := by
    intro y hy
    rw [gv]
    obtain ⟨j, hj⟩ := List.mem_iff_getElem?.mp hy
    have hj' : (fh (solved rows size))[j]? = some (y.1, fn y.2) := by unfold fh; rw [List.getElem?_map, hj]; rfl
    have ov := over_delta (fh (solved rows size)) (fun x => x.2 place * fn y.2 x.1) j (y.1, fn y.2) hj' (fun i x hx => by
      have d1 := R.red.delta j i _ _ hj' hx
      have d2 := R.red.delta j j _ _ hj' hj'
      rw [if_pos rfl] at d2
      show x.2 place * fn y.2 x.1 = if i = j then fn y.2 place * fn y.2 y.1 else 0
      have e1 : fn y.2 x.1 = if j = i then 1 else 0 := d1
      have e2 : fn y.2 y.1 = 1 := d2
      rw [e1, e2]
      by_cases h : i = j
      · subst h
        rw [if_pos rfl, if_pos rfl]
        rw [hj'] at hx
        injection hx with hx1
        rw [← hx1]
      · rw [if_neg (fun e => h e.symm), if_neg h]; grind)
    rw [ov]
    have d2 := R.red.delta j j _ _ hj' hj'
    rw [if_pos rfl] at d2
    have e2 : fn y.2 y.1 = 1 := d2
    show _ * (fn y.2 place - fn y.2 place * fn y.2 y.1) = 0
    rw [e2]; grind
  have kr := (tins_kills lg (N := size + rows.length) (es := exts rows) (held := []) (fun x hx => by simp at hx) (exts_len O.len) kh).2
  have lm : (marksL (leftOf rows size target) place size (solved rows size).reverse).length = size := by unfold marksL; simp
  have fm : ∀ q, q < size → fn (marksL (leftOf rows size target) place size (solved rows size).reverse) q = mkf (leftOf rows size target) place (solved rows size).reverse q := fun q hq => fn_get (by unfold marksL; rw [List.getElem?_map, List.getElem?_range hq]; rfl)
  have dg : ∀ r : List Rat, r.length = size → dot (marksL (leftOf rows size target) place size (solved rows size).reverse) r = g (fn r) := by
    intro r hr
    rw [dot_sumf (by omega), lm]
    exact sumf_congr fun q hq => by rw [fm q hq]
  refine ⟨fun r hr => ?_, ?_⟩
  · rw [dg r (O.len r hr)]
    obtain ⟨i, hi⟩ := List.mem_iff_getElem?.mp hr
    have hi' := (List.getElem?_eq_some_iff.mp hi).1
    have ke := kr (rows.getD i [] ++ unitL i rows.length) (List.mem_map.mpr ⟨i, List.mem_range.mpr hi', rfl⟩)
    have er : rows.getD i [] = r := by rw [List.getD_eq_getElem?_getD, hi]; rfl
    rw [er] at ke
    rw [← ke]
    refine sumf_congr fun q hq => ?_
    rw [fn_app_left (by rw [O.len r hr]; exact hq)]
  · rw [dg target ht]
    have e1 : g (fn target) = g (fn (target ++ List.replicate rows.length 0)) := sumf_congr fun q hq => by rw [fn_app_left (by omega)]
    rw [e1, gv]
    have e2 : fn (target ++ List.replicate rows.length 0) place - (over (fh (solved rows size)) fun x => x.2 place * fn (target ++ List.replicate rows.length 0) x.1) = fn (leftOf rows size target) place := by
      rw [eL]
      unfold lft
      congr 1
      exact over_congr fun x _ => by grind
    rw [e2]
    have := hf.2
    grind
end El

set_option Elab.async false
set_option linter.all false
set_option maxRecDepth 100000
/-! enumerate of a tuple; methods and instances of own classes by their defs -/
namespace Ly
open PySem PySem.Spec PyProof.Rows L2
/-- iter and enumerate as they are laid -/
abbrev tupIt (a : Addr) : Obj := { cls := .type "tuple_iterator", data := .fields #[.ref a, .int 0 0] }
abbrev enumOf (n : Nat) : Obj := { cls := .type "enumerate", data := .fields #[.none, .bool false, .ref n, rawInt 0, .none, .none] }
theorem meets_enumT (a : Addr) (items : Array Value) :
    Meets (Builtin.«enumerate.__new__» ⟨[.type "enumerate", .ref a], []⟩) (fun _ R s => s.heap.IsTuple a items ∧ R (.ok (.ret (.ref (s.heap.push (tupIt a)).objs.size))) { s with heap := (s.heap.push (tupIt a)).push (enumOf s.heap.objs.size) }) :=
  .of_wp fun prog w A R s h => by
    obtain ⟨hp, g, d, tk, os⟩ := s
    obtain ⟨h1, h⟩ := h
    have sub := sub_enumerate
    have go : ∀ {A' : Around} {E Q : Value → Shared → Prop}, Q (.ref hp.objs.size) ⟨hp.push (tupIt a), g, d, tk, os⟩ → wpAny (model prog w) A' (pyIter (.ref a)) Q E ⟨hp, g, d, tk, os⟩ := fun q => (begins_tuple a items).iter prog w _ _ ⟨hp, g, d, tk, os⟩ _ h1 q
    have ld : ∃ o, hp.get? a = some o ∧ o.cls = .type "tuple" := let ⟨o, e1, e2, _⟩ := h1; ⟨o, e1, e2⟩
    obtain ⟨⟨oc, od, dt, sl⟩, lo, lc⟩ := ld
    simp only at lc
    subst lc
    wp_walk using AutoSeq1.wpAny_loadPart' lo, go
    refine wpAny_stack_any fun st => wpAny_pure ?_
    split
    · rename_i c _ _ _ _ _
      cases (c == Value.type "enumerate") <;> (wp_walk using AutoSeq1.wpAny_loadPart' lo, go; exact ⟨_, rfl, h⟩)
    · wp_walk using AutoSeq1.wpAny_loadPart' lo, go
      exact ⟨_, rfl, h⟩
theorem call_enumT {prog : Program} {w : World} {A : Around} {E : Value → Shared → Prop} {s : Shared} {a : Addr} {items : Array Value} {Q : Value → Shared → Prop} (hT : s.heap.IsTuple a items)
    (h : ∀ h', IsEnum h' (s.heap.objs.size + 1) s.heap.objs.size 0 .none → h'.IsTupleIter s.heap.objs.size a 0 → (∀ b o, s.heap.get? b = some o → h'.get? b = some o) → Q (.ref (s.heap.objs.size + 1)) { s with heap := h' }) :
    wpAny (model prog w) A (call (.type "enumerate") [.ref a]) Q E s := by
  refine callType_new F.called_enumerate (by decide) (F.typeCall_enumerate_1 _) (F.newCall_enumerate_1 _) (fun obj => F.args_object_init_2 obj _) F.entry_enumerate_new (meets_enumT a items) ⟨hT, ?_⟩
  have z1 : (s.heap.push (tupIt a)).objs.size = s.heap.objs.size + 1 := Heap.size_push ..
  have g2 : ((s.heap.push (tupIt a)).push (enumOf s.heap.objs.size)).get? (s.heap.push (tupIt a)).objs.size = some (enumOf s.heap.objs.size) := Heap.get?_push_size _ rfl
  have g1 : ((s.heap.push (tupIt a)).push (enumOf s.heap.objs.size)).get? s.heap.objs.size = some (tupIt a) := Heap.get?_push_of_some _ (Heap.get?_push_size _ rfl)
  show _ ∧ _
  rw [z1] at g2 ⊢
  exact ⟨⟨_, g2, rfl⟩, h _ g2 ⟨_, g1, rfl, rfl⟩ fun b o x => Heap.get?_push_of_some _ (Heap.get?_push_of_some _ x)⟩
/-- the tuple at a as it stands at each turn, its items with their numbers in new pairs -/
def IteT (K : PySem.W.Frag) (a : Addr) : It where
  go := fun i H => ∃ xs x, SqT K H a xs ∧ xs[i]? = some x
  yld := fun i H v H' => ∃ T x, v = .ref T ∧ H T = none ∧ H' = upd H T (.tup [.int (i : Nat), x]) ∧ ∀ l, SqT K H a l → l[i]? = some x
  stop := fun i H => ∃ xs : List V, SqT K H a xs ∧ xs.length = i
theorem in2 {z a b : Addr} (h : z ∈ [a, b]) : z = a ∨ z = b := by simpa using h
theorem turnE {P : Program} {w : World} {K : PySem.W.Frag} {elts : List Expr} {kk : Nat} {tpos : Pos} {a e it : Addr} (ne : e ≠ it) :
    Turn P w K (.Tuple elts kk tpos) (IteT K a) [e, it] e (fun i h => (∃ old, IsEnum h e it ((i : Nat) : Int) old) ∧ h.IsTupleIter it a i) := by
  refine { mem := List.mem_cons_self .., obj := ?_, keep := ?_, item := ?_, done := ?_, self := fun A i s Q E st h => let ⟨⟨_, he⟩, _⟩ := st; wpAny_pyIter_enum he h }
  · rintro i h ⟨⟨old, he⟩, ⟨o, ho, hc, hd⟩⟩ b hb
    rcases in2 hb with z | z <;> subst z
    · exact ⟨_, he, fun v q => nomatch q⟩
    · exact ⟨o, ho, fun v q => by rw [hd] at q; cases q⟩
  · rintro i h h' ⟨⟨old, he⟩, hi⟩ k
    exact ⟨⟨old, k e (by simp) _ he⟩, hi.at fun o q => k it (by simp) o q⟩
  · intro X hP hw hK hc i pins s σ H E I hf st hg
    subst hP hw hK
    obtain ⟨⟨old, he⟩, hit⟩ := st
    obtain ⟨xs, x, hq, hx⟩ := hg
    obtain ⟨its, rv, p, _⟩ := I.tuple hq
    obtain ⟨u, hu, ru⟩ := rv.get hx
    have le : e < s.heap.objs.size := Heap.lt_size he
    have li : it < s.heap.objs.size := by obtain ⟨_, q, _⟩ := hit; exact Heap.lt_size q
    have na : a ≠ it := fun q => by
      obtain ⟨o, ho, c, _⟩ := hit
      obtain ⟨o', ho', c', _⟩ := p
      rw [← q, ho'] at ho; cases ho
      rw [c'] at c; simp at c
    have nea : e ≠ a := fun q => by
      obtain ⟨o', ho', c', _⟩ := p
      rw [← q, he] at ho'; cases ho'
      simp at c'
    have hd : X.A.in1.handled = none := I.ok.hd hc
    have D := Draws.tuple (prog := X.prog) (w := X.w) hd it a na its.toArray
    have s1 : i < its.toArray.size := by
      have := (List.getElem?_eq_some_iff.mp hu).1
      simpa using this
    refine wpAny_pyNext_enum_itemC D he ⟨hit, p⟩ s1 ne (by simp [ne, nea]) fun v h' tk ev out st' hT hsz hk => ?_
    have eu : u = v := by
      have : its[i]? = some v := by simpa using ev
      rw [hu] at this; exact Option.some.inj this
    subst eu
    refine ⟨_, rfl, wpAny_letOwnedTupleGo_enum (s := { s with heap := h', toks := tk + 1 }) out fun h2 he2 sb => ?_⟩
    have pair : h2.get? s.heap.objs.size = some { cls := .type "tuple", data := .seq #[.int ((i : Nat) : Int) tk, u] } := (sb.2 _ (Nat.ne_of_gt le)).trans hT
    have new : ObjOk X.prog X.w (upd H s.heap.objs.size (.tup [.int (i : Nat), x])) h2 s.heap.objs.size (.tup [.int (i : Nat), x]) := ⟨by show 2 ≤ sizeLine; decide, [.int ((i : Nat) : Int) tk, u], .cons ⟨_, rfl⟩ (.cons ru .nil), ⟨_, pair, rfl, _, rfl⟩⟩
    have I2 : Inv X pins σ (upd H s.heap.objs.size (.tup [.int (i : Nat), x])) { s with heap := h2, toks := tk + 1 } :=
      I.turnedNew (ch := [e, it]) (fun b o hb q => (sb.2 b (fun z => hb (by simp [z]))).trans (hk b o (fun z => hb (by simp [z])) (fun z => hb (by simp [z])) q)) hf (Nat.le_refl _) new
    refine ⟨.ref s.heap.objs.size, _, I2, rfl, ⟨_, x, rfl, I.hok.fresh (Nat.le_refl _), rfl, fun l hl => by rw [I.tuple_inj hl hq]; exact hx⟩, ⟨⟨u, ?_⟩, st'.1.at fun o q => (sb.2 it ne.symm).trans q⟩, fun b hb => ?_⟩
    · rw [show ((i + 1 : Nat) : Int) = (i : Int) + 1 by omega]
      exact he2
    · have hb' : b < s.heap.objs.size := by rcases in2 hb with z | z <;> rw [z] <;> assumption
      rw [upd_ne (Nat.ne_of_lt hb')]
      exact (hf b hb).1
  · intro X hP hw hK hc i pins s σ H E I hf st hg
    subst hP hw hK
    obtain ⟨⟨old, he⟩, hit⟩ := st
    obtain ⟨xs, hq, hx⟩ := hg
    obtain ⟨its, rv, p, _⟩ := I.tuple hq
    have na : a ≠ it := fun q => by
      obtain ⟨o, ho, c, _⟩ := hit
      obtain ⟨o', ho', c', _⟩ := p
      rw [← q, ho'] at ho; cases ho
      rw [c'] at c; simp at c
    have hd : X.A.in1.handled = none := I.ok.hd hc
    have hl := rv.length
    have es : its.toArray.size = i := by simp; omega
    obtain ⟨f0, f1, f2, f3, f4, f5⟩ := hf it (by simp)
    exact wpAny_pyNext_enum_endD (Draws.tuple (prog := X.prog) (w := X.w) hd it a na its.toArray) he (by rw [es]; exact ⟨hit, p⟩) fun h' eb => ⟨rfl, I.turned (t' := s.toks) (fun b o hb q => eb b o hb q) f0 f1 f3 f4 f5⟩
def iEnumT (K : PySem.W.Frag) (ta : TA) : TI := fun σ H R => ta σ H fun vs H1 => ∃ a xs, vs = [.ref a] ∧ SqT K H1 a xs ∧ R (IteT K a) H1
theorem kpi_enumT {X : Cx} (K : PySem.W.Frag) {e : Expr} {ta : TA} {p pos tpos : Pos} {elts : List Expr} {kk : Nat} (hg : Gl X "enumerate") (hm : X.mg "enumerate" = none) (ha : PA X [e] ta) (hs : starEach [e] X.env = [(false, eval e X.env)] := by rfl) (ek : X.K = K := by rfl) :
    PI X (.Tuple elts kk tpos) (.Call (.Name "enumerate" p) [e] [] pos) (iEnumT K ta) := by
  subst ek
  refine ⟨fun pins s σ H R I h => Call_ (ld_blt I hg hm boot_enumerate (PyProof.Rows.callWith_type1 (thn (ha.run pos pins s σ H _ I h) ?_) hs rfl))⟩
  rintro us s1 ⟨vs, H1, I1, r1, a, xs, rfl, hq, q⟩
  cases r1 with | cons r rr =>
  cases rr
  cases r
  obtain ⟨its, rv, p', _⟩ := I1.tuple hq
  refine call_enumT (show s1.heap.IsTuple a its.toArray from p') fun h' he hit hk => wpAny_pyIter_enum he ?_
  have I2 : Inv X pins σ H1 { s1 with heap := h' } := I1.kept (t' := s1.toks) hk
  refine ⟨s1.heap.objs.size + 1, [s1.heap.objs.size + 1, s1.heap.objs.size], _, _, H1, rfl, I2, turnE (Nat.succ_ne_self _), ⟨⟨.none, he⟩, hit⟩, fun b hb => ?_, q⟩
  have le : s1.heap.objs.size ≤ b := by
    rcases in2 hb with z | z <;> rw [z] <;> first | exact Nat.le_refl _ | exact Nat.le_add_right _ _
  exact I1.fpOk le (I1.hok.fresh le)
theorem walk_enumT {K : PySem.W.Frag} {a : Addr} {xs : List V} : Walk (IteT K a) xs.length (fun H => SqT K H a xs) (YPair (fun i => some (.int (i : Nat))) (fun i => xs[i]?)) := by
  refine ⟨fun i _ hi q => ⟨xs, xs[i], q, by simp [hi]⟩, fun _ q => ⟨xs, q, rfl⟩, fun i H v H' _ q y => ?_⟩
  obtain ⟨T, x, h1, h2, h3, h4⟩ := y
  exact ⟨T, .int (i : Nat), x, h1, h2, h3, rfl, h4 xs q⟩
/-! ### own classes -/
section
variable (P : Program) (w : World) (K : PySem.W.Frag) (mg : Str → Option Value) (base : Heap)
/-- the method m of the class at C keeps the promise -/
structure Met (k : Nat) (C : Addr) (m : Str) (ps : List Str) (sp : Sp) : Prop where
  ex : ∃ (f : Addr) (fd : FuncData), FnOk P w K mg base CX0 k f fd ps sp ∧ Meth K C m f ∧ L2.Binds K fd ps []
/-- the class's __init__ does -/
structure Ini (k : Nat) (C : Addr) (ps : List Str) (sp : Sp) : Prop where
  ex : ∃ (f : Addr) (fd : FuncData), FnOk P w K mg base CX0 k f fd ps sp ∧ Mk K C f ∧ L2.Binds K fd ps []
end
section
variable {X : Cx} {k : Nat} {C : Addr} {m x : Str} {ps : List Str} {sp : Sp} {apos p pos : Pos} {o e : Expr} {es : List Expr} {to : TE} {t : TA}
theorem pe_ini (O : Ini X.prog X.w X.K X.mg X.base k C ps sp) (hr : Room (k + 1) X.A) (hg : Gl X x) (hm : X.mg x = some (.ref C)) (ha : PA X (e :: es) t) (hdb : (x == ("__debug__" : Str)) = false := by decide)
    (he : starEach (e :: es) X.env = (false, eval e X.env) :: starEach es X.env := by rfl) (hpl : (backTo pos (starEach es X.env)).any (·.1) = false := by rfl) : PE X (.Call (.Name x p) (e :: es) [] pos) (tMake C sp [] E0 t) := by
  obtain ⟨f, fd, F, M, hb⟩ := O.ex
  exact pe_make M F hr hg hm hb .nil pass0 ha hdb he hpl
theorem pe_met {pl : Sem Bool} (O : Met X.prog X.w X.K X.mg X.base k C m ps sp) (c : Cls X.K C) (hr : Room k X.A) (ho : PE X o to) (ha : PA X (e :: es) t)
    (hst : starEach (e :: es) X.env = (false, eval e X.env) :: starEach es X.env := by rfl) (hpl : (backTo pos (starEach es X.env)).any (·.1) = false := by rfl)
    (ht : eval (.Call (.Attribute o m apos) (e :: es) [] pos) X.env = (do
      let ov ← eval o X.env
      standAt apos.atName
      let (f, first) ← holding [ov] (getMethod ov m pl)
      callWith pos f first (backTo pos (starEach (e :: es) X.env)) (backToKw pos (keywordEach [] X.env))) := by rfl) : PE X (.Call (.Attribute o m apos) (e :: es) [] pos) (tMeth C m sp [] E0 to t) := by
  obtain ⟨f, fd, F, M, hb⟩ := O.ex
  exact pe_meth ho c M F hr hb .nil pass0 ha hst hpl ht
theorem kpe_fld (K : PySem.W.Frag) {f : Str} (ho : PE X o to) (hb : attributeBase o f X.env (eval o X.env) = eval o X.env := by rfl) (ek : X.K = K := by rfl) : PE X (.Attribute o f pos) (tFld K to f) := by
  subst ek
  exact pe_fld ho hb
end
end Ly

set_option Elab.async false
set_option linter.all false
set_option maxRecDepth 100000
set_option maxHeartbeats 4000000
/-! tuple * int for 0 and 1 too; items of a list or a tuple, whichever it be -/
namespace Ly
open PySem PySem.Spec PyProof.Rows L2
theorem tuple_mul0 (l : Addr) (items : Array Value) (n : Nat) (dd : Option Addr) (sl : Array (Option Value)) (u : Tok) (hi : items.isEmpty = false) :
    Meets (Builtin.«tuple.__mul__» ⟨[.ref l, .int 0 u], []⟩) (fun _ R s => s.heap.get? l = some { cls := .type "tuple", dict := dd, data := .seq items n, slots := sl } ∧
      R (.ok (.ret (Value.ref s.heap.objs.size))) { s with heap := s.heap.push { cls := Value.type "tuple", data := Data.seq #[] }, toks := s.toks }) :=
  .of_wp fun prog w A R s h => by
    obtain ⟨hp, g, d, tk, os⟩ := s
    obtain ⟨hl, h⟩ := h
    have f1 := AutoSeq1.idx_int
    wp_walk using wpAny_loadPart' hl
    repeat (first
      | (refine wpAny_ite_false (decide_eq_false (by rw [hi]; decide)) ?_; wp_walk using wpAny_loadPart' hl)
      | (refine wpAny_ite_true (decide_eq_true (by rw [hi]; decide)) ?_; wp_walk using wpAny_loadPart' hl)
      | (refine wpAny_ite_false (decide_eq_false (by decide)) ?_; wp_walk using wpAny_loadPart' hl)
      | (refine wpAny_ite_true (decide_eq_true (by decide)) ?_; wp_walk using wpAny_loadPart' hl))
    exact ⟨_, rfl, h⟩
theorem tuple_mul1 (l : Addr) (items : Array Value) (n : Nat) (dd : Option Addr) (sl : Array (Option Value)) (u : Tok) (hi : items.isEmpty = false) :
    Meets (Builtin.«tuple.__mul__» ⟨[.ref l, .int 1 u], []⟩) (fun _ R s => s.heap.get? l = some { cls := .type "tuple", dict := dd, data := .seq items n, slots := sl } ∧
      R (.ok (.ret (Value.ref l))) s) :=
  .of_wp fun prog w A R s h => by
    obtain ⟨hp, g, d, tk, os⟩ := s
    obtain ⟨hl, h⟩ := h
    have f1 := AutoSeq1.idx_int
    wp_walk using wpAny_loadPart' hl
    repeat (first
      | (refine wpAny_ite_false (decide_eq_false (by rw [hi]; decide)) ?_; wp_walk using wpAny_loadPart' hl)
      | (refine wpAny_ite_true (decide_eq_true (by rw [hi]; decide)) ?_; wp_walk using wpAny_loadPart' hl)
      | (refine wpAny_ite_false (decide_eq_false (by decide)) ?_; wp_walk using wpAny_loadPart' hl)
      | (refine wpAny_ite_true (decide_eq_true (by decide)) ?_; wp_walk using wpAny_loadPart' hl))
    exact ⟨_, rfl, h⟩
def rRepTA (K : PySem.W.Frag) : R2 := fun x y H Q => ∃ l k xs, x = .ref l ∧ y = .int k ∧ SqT K H l xs ∧ xs ≠ [] ∧ 0 ≤ k ∧ k ≤ 1000 ∧ xs.length ≤ 1000 ∧ (k = 1 → Q (.ref l) H) ∧ (k ≠ 1 → ∀ p, H p = none → Q (.ref p) (upd H p (.tup (List.replicate k.toNat xs).flatten)))
section
variable {X : Cx}
theorem op_repTA : OpR X (binaryOp .Mult) (rRepTA X.K) := by
  intro pins s σ H x y v u Q I rx ry h
  obtain ⟨l, k, xs, rfl, rfl, hT, hne, h1, h2, hz, q1, q2⟩ := h
  by_cases k2 : 2 ≤ k
  · exact op_repT pins s σ H _ _ v u Q I rx ry ⟨l, k, xs, rfl, rfl, hT, hne, k2, h2, hz, q2 (by omega)⟩
  cases rx
  obtain ⟨t, rfl⟩ := ry
  obtain ⟨its, r, ⟨⟨cls, dd, data, sl⟩, ho, hc, n, hd⟩, hs⟩ := I.tuple hT
  simp only at hc hd
  subst hc hd
  have hle : its.length = xs.length := r.length.symm
  have hn : its ≠ [] := fun e => hne (by
    rw [e] at hle
    exact List.eq_nil_of_length_eq_zero hle.symm)
  have hi : its.toArray.isEmpty = false := by
    cases its with
    | nil => exact absurd rfl hn
    | cons a b => rfl
  have hk : k = 0 ∨ k = 1 := by omega
  rcases hk with rfl | rfl
  · refine wpAny_binaryOp_repeat_ref (T := "tuple") (U := "int") (by decide) ⟨_, ho, rfl⟩ (fun s' => typeIs_int s' 0 t) noFill_tuple_mul F.fills_int_mul F.slot_int_rmul repeat_tuple F.slot_int_index.lookup
      (call_meets F.slot_int_rmul (typeIs_int s 0 t) F.entry_int_rmul (F.args_int_rmul_2 _ _) (int_rmul_tuple 0 t l its.toArray n dd sl)
        ⟨ho, rfl, ⟨_, ho, rfl⟩, call_meets F.slot_tuple_mul ⟨_, ho, rfl⟩ F.entry_tuple_mul (F.args_tuple_mul_2 _ _) (tuple_mul0 l its.toArray n dd sl t hi) ⟨ho, ?_⟩⟩)
    refine ⟨.ref s.heap.objs.size, _, I.laid (t' := s.toks) (o := .tup []) (fun b ob q => Heap.get?_push_of_some _ q) (Nat.le_refl _) ?_, rfl, q2 (by decide) _ (I.hok.fresh (Nat.le_refl _))⟩
    exact ⟨Nat.zero_le _, [], .nil, IsTup.new _ _⟩
  · exact wpAny_binaryOp_repeat_ref (T := "tuple") (U := "int") (by decide) ⟨_, ho, rfl⟩ (fun s' => typeIs_int s' 1 t) noFill_tuple_mul F.fills_int_mul F.slot_int_rmul repeat_tuple F.slot_int_index.lookup
      (call_meets F.slot_int_rmul (typeIs_int s 1 t) F.entry_int_rmul (F.args_int_rmul_2 _ _) (int_rmul_tuple 1 t l its.toArray n dd sl)
        ⟨ho, rfl, ⟨_, ho, rfl⟩, call_meets F.slot_tuple_mul ⟨_, ho, rfl⟩ F.entry_tuple_mul (F.args_tuple_mul_2 _ _) (tuple_mul1 l its.toArray n dd sl t hi) ⟨ho, ⟨.ref l, H, I, rfl, q1 rfl⟩⟩⟩)
/-! ### a list or a tuple -/
def rIxA (K : PySem.W.Frag) : R2 := fun x y H Q => ∃ p xs i v, x = .ref p ∧ y = .int i ∧ (SqL K H p xs ∨ SqT K H p xs) ∧ atI xs i = some v ∧ Q v H
theorem kix_any (K : PySem.W.Frag) (e : X.K = K := by rfl) : IxR X (rIxA K) := by
  subst e
  intro value slice pins s σ H x y v u Q I rx ry h hs
  obtain ⟨p, xs, i, z, e1, e2, hq, he, q⟩ := h
  rcases hq with hq | hq
  · exact ix_list value slice pins s σ H x y v u Q I rx ry ⟨p, xs, i, z, e1, e2, hq, he, q⟩ hs
  · exact ix_tup value slice pins s σ H x y v u Q I rx ry ⟨p, xs, i, z, e1, e2, hq, he, q⟩ hs
def iAny (K : PySem.W.Frag) (tl : TE) : TI := fun σ H R => tl σ H fun x H1 => ∃ a, x = .ref a ∧ (((∃ xs, SqL K H1 a xs) ∧ R (Itl K a) H1) ∨ ((∃ xs, SqT K H1 a xs) ∧ R (Itt K a) H1))
theorem kpi_any (K : PySem.W.Frag) {tg l : Expr} {tl : TE} (hl : PE X l tl) (e : X.K = K := by rfl) : PI X tg l (iAny K tl) := by
  subst e
  refine ⟨fun pins s σ H R I h => ?_⟩
  refine thn (hl.run pins s σ H _ I h) fun v s1 ⟨x, H1, I1, r1, q1⟩ => ?_
  obtain ⟨a, e, q⟩ := q1
  subst e
  cases r1
  rcases q with ⟨⟨xs, hq⟩, q⟩ | ⟨⟨xs, hq⟩, q⟩
  · obtain ⟨its, rv, p, hz⟩ := I1.list hq
    refine wpAny_pyIter_list p.isList ?_
    refine ⟨s1.heap.objs.size, [s1.heap.objs.size], _, _, H1, rfl, I1.kept (t' := s1.toks) fun b o e => Heap.get?_push_of_some _ e, turn_list a _, ⟨_, Heap.get?_push_size _ rfl, rfl, rfl⟩, fun b hb => ?_, q⟩
    have e : b = s1.heap.objs.size := by simpa using hb
    subst e
    exact I1.fpOk (Nat.le_refl _) (I1.hok.fresh (Nat.le_refl _))
  · obtain ⟨its, rv, p, hz⟩ := I1.tuple hq
    refine wpAny_pyIter_tuple (show s1.heap.IsTuple a its.toArray from p) ?_
    refine ⟨s1.heap.objs.size, [s1.heap.objs.size], _, _, H1, rfl, I1.kept (t' := s1.toks) fun b o e => Heap.get?_push_of_some _ e, turn_tuple a _, ⟨_, Heap.get?_push_size _ rfl, rfl, rfl⟩, fun b hb => ?_, q⟩
    have e : b = s1.heap.objs.size := by simpa using hb
    subst e
    exact I1.fpOk (Nat.le_refl _) (I1.hok.fresh (Nat.le_refl _))
theorem kop_repTA (K : PySem.W.Frag) (e : X.K = K := by rfl) : OpR X (binaryOp .Mult) (rRepTA K) := by subst e; exact op_repTA
theorem kop_catA (K : PySem.W.Frag) (e : X.K = K := by rfl) : OpR X (binaryOp .Add) (rCatA K) := by subst e; exact op_catA
theorem ksl_tupA (K : PySem.W.Frag) (e : X.K = K := by rfl) : SlR X (rSlA K) := by subst e; exact sl_tupA
theorem kop_notIn (K : PySem.W.Frag) (e : X.K = K := by rfl) : OpR X (compareOp .NotIn) (rIn K true) := by subst e; exact op_notIn_seq
end
end Ly

set_option Elab.async false
set_option linter.all false
set_option maxRecDepth 100000
/-! any data: none, bools, ints, texts, tuples and lists of such; what judges ask of it -/
namespace Ly
open PySem PySem.Spec PyProof.Rows L2 Mt
theorem rd_same' {H H' : Hp} {p : Addr} {o : HO} (h : Rd H p o) (s : Same H H') : Rd H' p o := by
  rcases h with h | ⟨u, h⟩
  · exact .inl (s _ _ h)
  · exact .inr ⟨u, s _ _ h⟩
section
variable {K : PySem.W.Frag} {H H' : Hp}
theorem sql_same' {p : Addr} {xs : List V} (h : SqL K H p xs) (s : Same H H') : SqL K H' p xs := h.imp (fun h => rd_same' h s) id
theorem sqt_same' {p : Addr} {xs : List V} (h : SqT K H p xs) (s : Same H H') : SqT K H' p xs := h.imp (fun h => rd_same' h s) id
mutual
theorem dp_same (s : Same H H') : ∀ (d : PyData) {v : V}, Dp K H v d → Dp K H' v d
  | .none, _, h => by cases h; exact .non
  | .bool _, _, h => by cases h; exact .bl _
  | .int _, _, h => by cases h; exact .int _
  | .str _, _, h => by cases h; exact .str _
  | .tuple ds, _, h => by cases h with | tup e r => exact .tup (sqt_same' e s) (dpAll_same s ds r)
  | .list ds, _, h => by cases h with | lst e r => exact .lst (sql_same' e s) (dpAll_same s ds r)
  | .dict _, _, h => by cases h
theorem dpAll_same (s : Same H H') : ∀ (ds : List PyData) {vs : List V}, DpAll K H vs ds → DpAll K H' vs ds
  | [], _, h => by cases h; exact .nil
  | d :: ds, _, h => by cases h with | cons a r => exact .cons (dp_same s d a) (dpAll_same s ds r)
end
theorem dpAll_len : ∀ {vs : List V} {ds : List PyData}, DpAll K H vs ds → vs.length = ds.length
  | [], ds, h => by cases h; rfl
  | _ :: _, _, h => by cases h with | cons _ r => rw [List.length_cons, List.length_cons, dpAll_len r]
theorem dpAll_get : ∀ {vs : List V} {ds : List PyData} {i : Nat} {d : PyData}, DpAll K H vs ds → ds[i]? = some d → ∃ v, vs[i]? = some v ∧ Dp K H v d
  | _, _, 0, _, .cons a _, e => by
    simp at e; subst e; exact ⟨_, rfl, a⟩
  | _, _, i + 1, _, .cons _ r, e => by
    obtain ⟨v, h1, h2⟩ := dpAll_get (i := i) r (by simpa using e)
    exact ⟨v, by simpa using h1, h2⟩
  | _, _, _, _, .nil, e => by simp at e
theorem dpAll_getV : ∀ {vs : List V} {ds : List PyData} {i : Nat} {v : V}, DpAll K H vs ds → vs[i]? = some v → ∃ d, ds[i]? = some d ∧ Dp K H v d
  | _, _, 0, _, .cons a _, e => by
    simp at e; subst e; exact ⟨_, rfl, a⟩
  | _, _, i + 1, _, .cons _ r, e => by
    obtain ⟨v, h1, h2⟩ := dpAll_getV (i := i) r (by simpa using e)
    exact ⟨v, by simpa using h1, h2⟩
  | _, _, _, _, .nil, e => by simp at e
/-- the name of a thing's type -/
def tyName : PyData → String
  | .none => "NoneType"
  | .bool _ => "bool"
  | .int _ => "int"
  | .str _ => "str"
  | .tuple _ => "tuple"
  | .list _ => "list"
  | .dict _ => "dict"
theorem sqt_ty {a : Addr} {xs : List V} (h : SqT K H a xs) : TyX K H (.ref a) (.type "tuple") := by
  rcases h with (h | ⟨o, h⟩) | ⟨o, its, n, hk, hc, _⟩
  · exact .base (.tup h)
  · exact .fTuple h
  · exact .kTuple hk hc
theorem sql_ty {a : Addr} {xs : List V} (h : SqL K H a xs) : TyX K H (.ref a) (.type "list") := by
  rcases h with (h | ⟨o, h⟩) | ⟨o, its, n, hk, hc, _⟩
  · exact .base (.lst h)
  · exact .base (.frz h)
  · exact .kList hk hc
theorem dp_ty {d : PyData} {v : V} (h : Dp K H v d) : TyX K H v (.type (tyName d)) := by
  cases h with
  | non => exact .base .non
  | bl b => exact .base (.bl b)
  | int i => exact .base (.int i)
  | str x => exact .base (.str x)
  | tup e _ => exact sqt_ty e
  | lst e _ => exact sql_ty e
def jIntB : PyData → Bool
  | .int _ => true
  | .bool _ => true
  | _ => false
def jBool : PyData → Bool
  | .bool _ => true
  | _ => false
def jTup : PyData → Bool
  | .tuple _ => true
  | _ => false
def jStr : PyData → Bool
  | .str _ => true
  | _ => false
theorem kit_int : ∀ d : PyData, kitB (tyName d) "int" = some (jIntB d)
  | .none => show kitB "NoneType" "int" = some false from by decide +kernel
  | .bool _ => show kitB "bool" "int" = some true from by decide +kernel
  | .int _ => show kitB "int" "int" = some true from by decide +kernel
  | .str _ => show kitB "str" "int" = some false from by decide +kernel
  | .tuple _ => show kitB "tuple" "int" = some false from by decide +kernel
  | .list _ => show kitB "list" "int" = some false from by decide +kernel
  | .dict _ => show kitB "dict" "int" = some false from by decide +kernel
theorem kit_bool : ∀ d : PyData, kitB (tyName d) "bool" = some (jBool d)
  | .none => show kitB "NoneType" "bool" = some false from by decide +kernel
  | .bool _ => show kitB "bool" "bool" = some true from by decide +kernel
  | .int _ => show kitB "int" "bool" = some false from by decide +kernel
  | .str _ => show kitB "str" "bool" = some false from by decide +kernel
  | .tuple _ => show kitB "tuple" "bool" = some false from by decide +kernel
  | .list _ => show kitB "list" "bool" = some false from by decide +kernel
  | .dict _ => show kitB "dict" "bool" = some false from by decide +kernel
theorem kit_tup : ∀ d : PyData, kitB (tyName d) "tuple" = some (jTup d)
  | .none => show kitB "NoneType" "tuple" = some false from by decide +kernel
  | .bool _ => show kitB "bool" "tuple" = some false from by decide +kernel
  | .int _ => show kitB "int" "tuple" = some false from by decide +kernel
  | .str _ => show kitB "str" "tuple" = some false from by decide +kernel
  | .tuple _ => show kitB "tuple" "tuple" = some true from by decide +kernel
  | .list _ => show kitB "list" "tuple" = some false from by decide +kernel
  | .dict _ => show kitB "dict" "tuple" = some false from by decide +kernel
theorem kit_str : ∀ d : PyData, kitB (tyName d) "str" = some (jStr d)
  | .none => show kitB "NoneType" "str" = some false from by decide +kernel
  | .bool _ => show kitB "bool" "str" = some false from by decide +kernel
  | .int _ => show kitB "int" "str" = some false from by decide +kernel
  | .str _ => show kitB "str" "str" = some true from by decide +kernel
  | .tuple _ => show kitB "tuple" "str" = some false from by decide +kernel
  | .list _ => show kitB "list" "str" = some false from by decide +kernel
  | .dict _ => show kitB "dict" "str" = some false from by decide +kernel
end
end Ly

set_option Elab.async false
set_option linter.all false
set_option maxRecDepth 100000
/-! data whose lists lie where S says; what keeps them -/
namespace Ly
open PySem PySem.Spec PyProof.Rows L2 Mt
mutual
inductive Da (K : PySem.W.Frag) (S : Addr → Prop) (H : Hp) : V → PyData → Prop
  | non : Da K S H .non .none
  | bl (b : Bool) : Da K S H (.bl b) (.bool b)
  | int (i : Int) : Da K S H (.int i) (.int i)
  | str (x : Str) : Da K S H (.str x) (.str x)
  | tup {a : Addr} {xs : List V} {ds : List PyData} : ITup K H a xs → DaAll K S H xs ds → Da K S H (.ref a) (.tuple ds)
  | lst {a : Addr} {xs : List V} {ds : List PyData} : S a → H a = some (.lst xs) → DaAll K S H xs ds → Da K S H (.ref a) (.list ds)
inductive DaAll (K : PySem.W.Frag) (S : Addr → Prop) (H : Hp) : List V → List PyData → Prop
  | nil : DaAll K S H [] []
  | cons {v : V} {vs : List V} {d : PyData} {ds : List PyData} : Da K S H v d → DaAll K S H vs ds → DaAll K S H (v :: vs) (d :: ds)
end
/-- tuples stay, and the lists at S -/
def Fr (S : Addr → Prop) (H H' : Hp) : Prop := TK H H' ∧ ∀ a xs, S a → H a = some (.lst xs) → H' a = some (.lst xs)
theorem fr_same {S : Addr → Prop} {H H' : Hp} (s : Same H H') : Fr S H H' := ⟨tk_same s, fun a xs _ h => s a _ h⟩
theorem Fr.trans {S : Addr → Prop} {H H1 H2 : Hp} (a : Fr S H H1) (b : Fr S H1 H2) : Fr S H H2 := ⟨a.1.trans b.1, fun c xs s h => b.2 c xs s (a.2 c xs s h)⟩
section
variable {K : PySem.W.Frag} {S : Addr → Prop} {H H' : Hp}
mutual
theorem Da.mono (t : Fr S H H') : ∀ (d : PyData) {v : V}, Da K S H v d → Da K S H' v d
  | .none, _, h => by cases h; exact .non
  | .bool _, _, h => by cases h; exact .bl _
  | .int _, _, h => by cases h; exact .int _
  | .str _, _, h => by cases h; exact .str _
  | .tuple ds, _, h => by cases h with | tup e r => exact .tup (e.mono t.1) (DaAll.mono t ds r)
  | .list ds, _, h => by cases h with | lst s e r => exact .lst s (t.2 _ _ s e) (DaAll.mono t ds r)
  | .dict _, _, h => by cases h
theorem DaAll.mono (t : Fr S H H') : ∀ (ds : List PyData) {vs : List V}, DaAll K S H vs ds → DaAll K S H' vs ds
  | [], _, h => by cases h; exact .nil
  | d :: ds, _, h => by cases h with | cons a r => exact .cons (Da.mono t d a) (DaAll.mono t ds r)
end
mutual
theorem Da.dp : ∀ (d : PyData) {v : V}, Da K S H v d → Dp K H v d
  | .none, _, h => by cases h; exact .non
  | .bool _, _, h => by cases h; exact .bl _
  | .int _, _, h => by cases h; exact .int _
  | .str _, _, h => by cases h; exact .str _
  | .tuple ds, _, h => by cases h with | tup e r => exact .tup e.sq (DaAll.dp ds r)
  | .list ds, _, h => by cases h with | lst s e r => exact .lst (.of e) (DaAll.dp ds r)
  | .dict _, _, h => by cases h
theorem DaAll.dp : ∀ (ds : List PyData) {vs : List V}, DaAll K S H vs ds → DpAll K H vs ds
  | [], _, h => by cases h; exact .nil
  | d :: ds, _, h => by cases h with | cons a r => exact .cons (Da.dp d a) (DaAll.dp ds r)
end

mutual
def noL : PyData → Bool
  | .tuple ds => noLs ds
  | .list _ => false
  | .dict _ => false
  | _ => true
def noLs : List PyData → Bool
  | [] => true
  | d :: ds => noL d && noLs ds
end
mutual
theorem Da.im : ∀ (d : PyData) {v : V}, noL d = true → Da K S H v d → Im K H v d
  | .none, _, _, h => by cases h; exact .non
  | .bool _, _, _, h => by cases h; exact .bl _
  | .int _, _, _, h => by cases h; exact .int _
  | .str _, _, _, h => by cases h; exact .str _
  | .tuple ds, _, n, h => by cases h with | tup e r => exact .tup e (DaAll.im ds (by simpa [noL] using n) r)
  | .list ds, _, n, _ => by simp [noL] at n
  | .dict _, _, n, _ => by simp [noL] at n
theorem DaAll.im : ∀ (ds : List PyData) {vs : List V}, noLs ds = true → DaAll K S H vs ds → ImAll K H vs ds
  | [], _, _, h => by cases h; exact .nil
  | d :: ds, _, n, h => by
    have n' : noL d = true ∧ noLs ds = true := by simpa [noLs] using n
    cases h with | cons a r => exact .cons (Da.im d n'.1 a) (DaAll.im ds n'.2 r)
end
mutual
theorem Im.da : ∀ (d : PyData) {v : V}, Im K H v d → Da K S H v d
  | .none, _, h => by cases h; exact .non
  | .bool _, _, h => by cases h; exact .bl _
  | .int _, _, h => by cases h; exact .int _
  | .str _, _, h => by cases h; exact .str _
  | .tuple ds, _, h => by cases h with | tup e r => exact .tup e (ImAll.da ds r)
  | .list _, _, h => by cases h
  | .dict _, _, h => by cases h
theorem ImAll.da : ∀ (ds : List PyData) {vs : List V}, ImAll K H vs ds → DaAll K S H vs ds
  | [], _, h => by cases h; exact .nil
  | d :: ds, _, h => by cases h with | cons a r => exact .cons (Im.da d a) (ImAll.da ds r)
end
theorem DaAll.len : ∀ {vs : List V} {ds : List PyData}, DaAll K S H vs ds → vs.length = ds.length
  | [], ds, h => by cases h; rfl
  | _ :: _, _, h => by cases h with | cons _ r => rw [List.length_cons, List.length_cons, DaAll.len r]
theorem DaAll.get : ∀ {vs : List V} {ds : List PyData} {i : Nat} {d : PyData}, DaAll K S H vs ds → ds[i]? = some d → ∃ v, vs[i]? = some v ∧ Da K S H v d
  | _, _, 0, _, .cons a _, e => by
    simp at e; subst e; exact ⟨_, rfl, a⟩
  | _, _, i + 1, _, .cons _ r, e => by
    obtain ⟨v, h1, h2⟩ := DaAll.get (i := i) r (by simpa using e)
    exact ⟨v, by simpa using h1, h2⟩
  | _, _, _, _, .nil, e => by simp at e
theorem DaAll.getV : ∀ {vs : List V} {ds : List PyData} {i : Nat} {v : V}, DaAll K S H vs ds → vs[i]? = some v → ∃ d, ds[i]? = some d ∧ Da K S H v d
  | _, _, 0, _, .cons a _, e => by
    simp at e; subst e; exact ⟨_, rfl, a⟩
  | _, _, i + 1, _, .cons _ r, e => by
    obtain ⟨v, h1, h2⟩ := DaAll.getV (i := i) r (by simpa using e)
    exact ⟨v, by simpa using h1, h2⟩
  | _, _, _, _, .nil, e => by simp at e
theorem DaAll.app : ∀ {xs ys : List V} {ds es : List PyData}, DaAll K S H xs ds → DaAll K S H ys es → DaAll K S H (xs ++ ys) (ds ++ es)
  | _, _, _, _, .nil, b => b
  | _, _, _, _, .cons h r, b => .cons h (DaAll.app r b)
theorem DaAll.take : ∀ {xs : List V} {ds : List PyData} (n : Nat), DaAll K S H xs ds → DaAll K S H (xs.take n) (ds.take n)
  | _, _, 0, _ => by rw [List.take_zero, List.take_zero]; exact .nil
  | _, _, n + 1, .nil => by rw [List.take_nil, List.take_nil]; exact .nil
  | _, _, n + 1, .cons h r => by rw [List.take_succ_cons, List.take_succ_cons]; exact .cons h (DaAll.take n r)
theorem DaAll.drop : ∀ {xs : List V} {ds : List PyData} (n : Nat), DaAll K S H xs ds → DaAll K S H (xs.drop n) (ds.drop n)
  | _, _, 0, h => by rw [List.drop_zero, List.drop_zero]; exact h
  | _, _, n + 1, .nil => by rw [List.drop_nil, List.drop_nil]; exact .nil
  | _, _, n + 1, .cons h r => by rw [List.drop_succ_cons, List.drop_succ_cons]; exact DaAll.drop n r
theorem DaAll.rev : ∀ {xs : List V} {ds : List PyData}, DaAll K S H xs ds → DaAll K S H xs.reverse ds.reverse
  | _, _, .nil => .nil
  | _, _, .cons h r => by rw [List.reverse_cons, List.reverse_cons]; exact DaAll.app (DaAll.rev r) (.cons h .nil)
end
end Ly

set_option Elab.async false
set_option linter.all false
set_option maxRecDepth 100000
/-! several except clauses, with and without a name; defs that raise, by name -/
namespace Ly
open PySem PySem.Spec PyProof.Rows L2
abbrev Clause := Value × Option Nat × (Addr → Value → Option Addr → TS)
/-- what a clause's suite is read with -/
def endsAs (i : Nat) (D : Ends) : Ends := { nx := fun σ' H' => D.nx (σ'.set i none) H', rt := D.rt, bk := fun σ' H' => D.bk (σ'.set i none) H', ct := fun σ' H' => D.ct (σ'.set i none) H' }
def wL (K : PySem.W.Frag) (Wout : WX) (D : Ends) : List Clause → WX
  | [] => Wout
  | (c, none, ts) :: r => fun cls d σ H => ∃ b, PySem.W.exmOne K cls c = some b ∧ (b = true → ∀ a, H a = none → ts a cls d D σ H) ∧ (b = false → wL K Wout D r cls d σ H)
  | (c, some i, ts) :: r => fun cls d σ H => ∃ b, PySem.W.exmOne K cls c = some b ∧ (b = true → ∀ a, H a = none → ts a cls d (endsAs i D) (σ.set i (some (.ref a))) H) ∧ (b = false → wL K Wout D r cls d σ H)
inductive HdL (X : Cx) : List ExceptHandler → List Clause → Prop
  | nil : HdL X [] []
  | cons {x : Str} {c : Value} {ts : Addr → Value → Option Addr → TS} {b₀ : Stmt} {suite : List Stmt} {np pos' : Pos} {hds : List ExceptHandler} {l : List Clause} (hc : Names X x c)
      (hsu : ∀ (a : Addr) (oe : Obj) (cls : Value) (d : Option Addr) (pn : List (Addr × Obj)), Zc cls d oe → (∃ vs, oe.data = .fields vs) → PSs (X.suite a ((a, oe) :: pn)) (b₀ :: suite) (ts a cls d)) (r : HdL X hds l) :
      HdL X (.ExceptHandler (some (.Name x np)) none (b₀ :: suite) pos' :: hds) ((c, none, ts) :: l)
  | as {x n : Str} {i : Nat} {c : Value} {ts : Addr → Value → Option Addr → TS} {b₀ : Stmt} {suite : List Stmt} {np pos' : Pos} {hds : List ExceptHandler} {l : List Clause} (hN : X.N.Nodup) (hi : X.N[i]? = some n) (hln : X.env.kindOf n = some .local) (hc : Names X x c)
      (hsu : ∀ (a : Addr) (oe : Obj) (cls : Value) (d : Option Addr) (pn : List (Addr × Obj)), Zc cls d oe → (∃ vs, oe.data = .fields vs) → PSs (X.suite a ((a, oe) :: pn)) (b₀ :: suite) (ts a cls d)) (r : HdL X hds l) :
      HdL X (.ExceptHandler (some (.Name x np)) (some n) (b₀ :: suite) pos' :: hds) ((c, some i, ts) :: l)
section
variable {X : Cx} {body : List Stmt} {h₀ : ExceptHandler} {hds : List ExceptHandler} {l : List Clause} {pos : Pos} {tb : WX → TS} {Wout : WX}
theorem ps_try_list (hs : X.stack = X.env :: X.outer) (hf : X.env.frame = some X.env.locals) (tk : Takes X Wout)
    (hb : ∀ (W : WX) (pn : List (Addr × Obj)) (xe : Value → Shared → Prop), Takes (X.tr pn xe) W → PassesOwn (model X.prog X.w) X.A X.env xe → PSs (X.tr pn xe) body (tb W))
    (hh : HdL X (h₀ :: hds) l) : PS X (.Try body (h₀ :: hds) [] [] pos) (fun D σ H => tb (wL X.K Wout D l) D σ H) := by
  refine ⟨fun pins s σ H D I h => ?_⟩
  have ok := I.ok
  have hfr : X.A.frames = some (X.env :: X.outer) := by rw [ok.frames, hs]
  refine wpAny_Try_except ?_
  refine wpAny_mono ((hb (wL X.K Wout D l) (X.pn ++ pins) (fun e s₁ => wpAny (model X.prog X.w) X.A (noteFrame e X.env) (fun _ s₂ => wpAny (model X.prog X.w) X.A (setFlight e none) (fun _ s₃ =>
    wpAny (model X.prog X.w) X.A (handleBy e X.env (h₀ :: hds)) (SP X pins D) X.xe s₃) X.xe s₂) X.xe s₁) (fun u s' xx => ?_) PassesOwn.looking).run [] s σ H D (I.toTry _) h) (fun f s1 hsp => ?_) (fun e s1 he => he)
  · obtain ⟨a, B, sI, pins', σ', H', cls, d, rfl, J', nb, up, sky, na, os, ag, w⟩ := xx
    have J : Inv X pins σ' H' sI := J'.ofTry ok
    have sky' : Sky B (X.env :: X.outer) a (Zc cls d) X.env.locals s'.heap := by rw [← hs]; exact sky
    show wpAny (model X.prog X.w) X.A (noteFrame (.ref a) X.env) _ _ _
    refine Sky.land Zc.steady hfr hf sky' fun h3 fl3 up3 => ?_
    have J3 : Inv X pins σ' H' { s' with heap := h3 } := J.landed nb fl3.1 (up.trans up3) os ag
    obtain ⟨oe3, vs3, he3, hz3, hd3⟩ := fl3.there
    have notFr : ∀ {h : Heap} {o : Obj} {vs : Array Value}, h.FunFrames B (X.env :: X.outer) → h.get? a = some o → o.data = .fields vs → a ∉ frs (X.env :: X.outer) := fun {h o vs} ff e dd hm => by
      obtain ⟨_, o', e', hnf⟩ := ff.mem hm
      rw [e] at e'; cases e'
      exact hnf _ dd
    have nfr := notFr fl3.2.2.1 he3 hd3
    have nL : a ≠ X.env.locals := fun z => nfr (List.mem_filterMap.mpr ⟨X.env, List.mem_cons_self, by rw [hf, z]⟩)
    have nF : a ∉ X.fs := fun hm => by
      obtain ⟨e, he, q⟩ := List.mem_filterMap.mp hm
      exact nfr (List.mem_filterMap.mpr ⟨e, List.mem_cons_of_mem _ he, q⟩)
    have S3 := J3.suite he3 hd3 na nL nF
    have LT : PySem.W.Looks (model X.prog X.w) h3 (typeOf (.ref a)) cls := fun A Q E s k q => wpAny_typeOf_ref (k _ _ he3) (by rw [hz3.1]; exact q)
    have test : ∀ {x : Str} {c : Value} {np : Pos} {Q : Value → Shared → Prop} {E : Value → Shared → Prop}, Names X x c → Q c { s' with heap := h3 } → wpAny (model X.prog X.w) (X.A.mark (some (.ref a))) (eval (.Name x np) X.env) Q E { s' with heap := h3 } := fun {x c np Q E} hc q => by
      obtain ⟨hg, hdbg, hm | ⟨hm, hv, hnn⟩⟩ := hc
      · exact ld_glob (X := X.suite a ((a, oe3) :: (X.pn ++ pins))) S3 hg hm q hdbg
      · exact ld_blt (X := X.suite a ((a, oe3) :: (X.pn ++ pins))) S3 hg hm hv q hnn hdbg
    have go : ∀ {hds' : List ExceptHandler} {l' : List Clause}, HdL X hds' l' → wL X.K Wout D l' cls d σ' H' →
        wpAny (model X.prog X.w) X.A (handleBy (.ref a) X.env hds') (SP X pins D) X.xe { s' with heap := h3 } := by
      intro hds' l' hk
      induction hk with
      | nil =>
        intro w
        refine wpAny_handleBy_nil ?_
        obtain ⟨k1, k2, k3, oe, vs, T, oT, ts', he, hz, hd, h1, hr⟩ := id fl3
        unfold PySem.passOn
        refine wpAny_bind (wpAny_field he hd h1 ?_)
        rw [if_neg (show ¬ ((Value.ref T == Value.none) = true) from by simp)]
        have fin : wpAny (model X.prog X.w) X.A (setFlight (.ref a) X.env.frame) (fun _ s4 => wpAny (model X.prog X.w) X.A (throw (.ref a) : Sem Flow) (SP X pins D) X.xe s4) X.xe { s' with heap := h3 } := by
          rw [hf]
          refine HandSPX.setFlight_upZ fl3 fun h4 hh4 up4 => wpAny_throw (tk _ _ ?_)
          exact ⟨a, B, sI, pins, σ', H', cls, d, rfl, J, nb, (up.trans up3).trans up4, .inr (.inr (by rw [hs]; exact hh4)), na, os, ag, w⟩
        first
          | exact wpAny_bind (wpAny_pure (wpAny_bind fin))
          | exact wpAny_bind fin
      | @cons x c ts b₀ suite np pos' hds2 l2 hc hsu r ih =>
        intro w
        obtain ⟨b, hb1, hyes, hno⟩ := w
        refine wpAny_handleBy_cons (codeAny_handlers_test ?_) (by intro q; cases q)
        have LM := PySem.W.exm_one (M := model X.prog X.w) (J3.kIn) LT hb1
        refine test hc (LM.here ?_)
        cases b with
        | true =>
          refine codeAny_handlers_suite ?_
          refine HandSPX.lands_againZ fl3 fun h4 fl4 up4 => ?_
          have J4 : Inv X pins σ' H' { s' with heap := h4 } := J.landed nb fl4.1 ((up.trans up3).trans up4) os ag
          obtain ⟨oe4, vs4, he4, hz4, hd4⟩ := fl4.there
          have S4 := J4.suite he4 hd4 na nL nF
          refine wpAny_mono ((hsu a oe4 cls d (X.pn ++ pins) hz4 ⟨_, hd4⟩).run [] _ _ H' _ S4 (hyes rfl a na)) (fun f s6 hsp => ?_) (fun _ _ z => False.elim z)
          cases f with
          | next =>
            obtain ⟨σ6, H6, S6, q6⟩ := hsp
            exact ⟨_, _, S6.unsuite ok, q6⟩
          | brk =>
            obtain ⟨σ6, H6, S6, q6⟩ := hsp
            exact ⟨_, _, S6.unsuite ok, q6⟩
          | cont =>
            obtain ⟨σ6, H6, S6, q6⟩ := hsp
            exact ⟨_, _, S6.unsuite ok, q6⟩
          | ret u =>
            obtain ⟨v6, σ6, H6, S6, r6, q6⟩ := hsp
            exact ⟨_, _, _, S6.unsuite ok, r6, q6⟩
        | false =>
          show wpAny _ X.A (handleBy (.ref a) X.env hds2) _ _ _
          exact ih (hno rfl)
      | @as x n i c ts b₀ suite np pos' hds2 l2 hN hi hln hc hsu r ih =>
        intro w
        obtain ⟨b, hb1, hyes, hno⟩ := w
        have hloc : Loc X.env.scope n := .inl hln
        refine wpAny_handleBy_cons (codeAny_handlers_test ?_) (by intro q; cases q)
        have LM := PySem.W.exm_one (M := model X.prog X.w) (J3.kIn) LT hb1
        refine test hc (LM.here ?_)
        cases b with
        | true =>
          refine codeAny_handlers_suite_as ?_
          refine HandSPX.lands_againZ fl3 fun h4 fl4 up4 => ?_
          have J4 : Inv X pins σ' H' { s' with heap := h4 } := J.landed nb fl4.1 ((up.trans up3).trans up4) os ag
          obtain ⟨oe4, vs4, he4, hz4, hd4⟩ := fl4.there
          have S4 := J4.suite he4 hd4 na nL nF
          refine store_ok (X := X.suite a ((a, oe4) :: (X.pn ++ pins))) (v := .ref a) S4 hN hi hloc rfl (fun s5 S5 => ?_) (.inr hln)
          refine wpAny_mono ((hsu a oe4 cls d (X.pn ++ pins) hz4 ⟨_, hd4⟩).run [] s5 _ H' _ S5 (hyes rfl a na)) (fun f s6 hsp => ?_) (fun _ _ z => False.elim z)
          have end_ : ∀ {σ6 : L2.St} {H6 : Hp} {Q : Shared → Prop}, Inv (X.suite a ((a, oe4) :: (X.pn ++ pins))) [] σ6 H6 s6 → (∀ s7, Inv X pins (σ6.set i none) H6 s7 → Q s7) →
              wpAny (model X.prog X.w) X.A (do bindName X.env n .none; unbindBehindTheSuite X.env n pos') (fun _ s7 => Q s7) X.xe s6 := fun {σ6 H6 Q} S6 hq => gone_ok (S6.unsuite ok) hN hi hln hq
          cases f with
          | next =>
            obtain ⟨σ6, H6, S6, q6⟩ := hsp
            exact end_ S6 fun s7 J7 => ⟨_, _, J7, q6⟩
          | brk =>
            obtain ⟨σ6, H6, S6, q6⟩ := hsp
            exact end_ S6 fun s7 J7 => ⟨_, _, J7, q6⟩
          | cont =>
            obtain ⟨σ6, H6, S6, q6⟩ := hsp
            exact end_ S6 fun s7 J7 => ⟨_, _, J7, q6⟩
          | ret u =>
            obtain ⟨v6, σ6, H6, S6, r6, q6⟩ := hsp
            exact end_ S6 fun s7 J7 => ⟨_, _, _, J7, r6, q6⟩
        | false =>
          show wpAny _ X.A (handleBy (.ref a) X.env hds2) _ _ _
          exact ih (hno rfl)
    exact go hh w
  · cases f with
    | next =>
      obtain ⟨σ', H', J', q⟩ := hsp
      exact wpAny_execs_nil ⟨σ', H', J'.ofTry ok, q⟩
    | brk =>
      obtain ⟨σ', H', J', q⟩ := hsp
      exact ⟨σ', H', J'.ofTry ok, q⟩
    | cont =>
      obtain ⟨σ', H', J', q⟩ := hsp
      exact ⟨σ', H', J'.ofTry ok, q⟩
    | ret u =>
      obtain ⟨v, σ', H', J', r, q⟩ := hsp
      exact ⟨v, σ', H', J'.ofTry ok, r, q⟩
end
/-! ### defs that raise, by their names -/
section
variable (P : Program) (w : World) (K : PySem.W.Frag) (mg : Str → Option Value) (base : Heap)
structure DefX (k : Nat) (x : Str) (st : Stmt) (ps : List Str) (sp : Sp) : Prop where
  ex : ∃ (f : Addr) (fd : FuncData), FnOk P w K mg base (L2.CX P w) k f fd ps sp ∧ mg x = some (.ref f) ∧ PySem.W.keepIn K (.ref f) = true ∧ L2.Binds K fd ps [] ∧ Fun K x x st f fd
end
section
variable {X : Cx} {k : Nat} {x : Str} {st : Stmt} {ps : List Str} {sp : Sp} {p pos : Pos} {e : Expr} {es : List Expr} {t : TA} {W : WX}
theorem pe_defX (O : DefX X.prog X.w X.K X.mg X.base k x st ps sp) (tk : Takes X W) (hr : Room k X.A) (hg : Gl X x) (ha : PA X (e :: es) t) (hdb : (x == ("__debug__" : Str)) = false := by decide)
    (he : starEach (e :: es) X.env = (false, eval e X.env) :: starEach es X.env := by rfl) (hpl : (backTo pos (starEach es X.env)).any (·.1) = false := by rfl) :
    PE X (.Call (.Name x p) (e :: es) [] pos) (tCallS sp (WE W) t) := by
  obtain ⟨f, fd, F, hm, hk, hb, _⟩ := O.ex
  exact pe_callS F hr hg hm hk hb (fun σ => passAt tk σ) ha hdb he hpl
end
section
variable {P : Program} {w : World} {K : PySem.W.Frag} {mg : Str → Option Value} {base : Heap}
theorem Here.toDefX {x : Str} {st : Stmt} {k : Nat} {ps : List Str} {sp : Sp} (z : Here K mg x st) (ok : ∀ {f : Addr} {fd : FuncData}, Fun K x x st f fd → FnOk P w K mg base (L2.CX P w) k f fd ps sp)
    (b : ∀ (kV doc pm : Value) (an : Option Addr) (cdv ct : Value) (us : List Value), us.length = ps.length → bindArgs (PySem.W.fnOf x x (defArgs st) (defBody st) (defScope st) .none kV doc pm an cdv ct) ⟨us, []⟩ = pure (ps.zip us)) : DefX P w K mg base k x st ps sp := by
  obtain ⟨f, fd, hm, F⟩ := z
  exact ⟨f, fd, ok F, hm, F.kp, F.binds b, F⟩
end
section
variable {K : PySem.W.Frag}
/-- isinstance of the error that the suite holds -/
def rIsX (K : PySem.W.Frag) (cls : Value) (d : Option Addr) (a : Addr) : List V → Hp → VK → Prop := fun xs H Q => ∃ (D : Addr) (c : V) (cv : Value) (b : Bool), cls = .ref D ∧ d = none ∧ ExcC K D ∧ xs = [.ref a, c] ∧ (∀ u, RelV c u → u = cv) ∧ PySem.W.kitOne K (.ref D) cv = some b ∧ Q (.bl b) H
theorem call_isX {X : Cx} {a : Addr} {cls : Value} {d : Option Addr} {oe : Obj} {pn : List (Addr × Obj)} (hz : Zc cls d oe) (hf : ∃ vs, oe.data = .fields vs) : CallR (X.suite a ((a, oe) :: pn)) (.builtin "isinstance") (rIsX X.K cls d a) := by
  intro pins s σ H xs us Q I r h
  obtain ⟨D, c, cv, b, rfl, rfl, E, h⟩ := h
  exact call_isE E hz hf pins s σ H xs us Q I r ⟨c, cv, b, h⟩
end
end Ly

set_option Elab.async false
set_option linter.all false
set_option maxRecDepth 100000
/-! sorted of a list of pairs whose first is an int of its own, whose second is any object -/
namespace SrtO
open PySem PySem.W PySem.Calls PyProof.Rows Srt
section
variable {prog : Program} {w : World} {A : Around} {E : Value → Shared → Prop} {s : Shared}
/-- a pair of an int and an object -/
def IsKey (h : Heap) (v : Value) (x : Int) : Prop := ∃ a o t b n, v = .ref a ∧ h.get? a = some o ∧ o.cls = .type "tuple" ∧ o.data = .seq #[.int x t, .ref b] n
theorem IsKey.keeps {h h' : Heap} {v : Value} {x : Int} (p : IsKey h v x) (k : ∀ b o, h.get? b = some o → o.cls = .type "tuple" → h'.get? b = some o) : IsKey h' v x := by
  obtain ⟨a, o, t, u, n, e, ho, hc, hd⟩ := p
  exact ⟨a, o, t, u, n, e, k _ _ ho hc, hc, hd⟩
theorem swo_key {α : Type} (k : α → Int) : Swo fun v u => decide (k v < k u) := by
  refine ⟨fun x y h => ?_, fun x y z h1 h2 => ?_⟩
  · have := of_decide_eq_true h
    exact decide_eq_false (by omega)
  · have h3 := of_decide_eq_false h1
    have h4 := of_decide_eq_false h2
    exact decide_eq_false (by omega)
theorem eqBool_self {a : Addr} {Q : Bool → Shared → Prop} (h : Q true s) : wpAny (model prog w) A (eqBool (.ref a) (.ref a)) Q E s := by
  unfold eqBool
  refine wpAny_holding ?_
  rw [if_pos (show (Value.ref a == Value.ref a) = true from beq_iff_eq.mpr rfl)]
  exact wpAny_bind (wpAny_rule (wpAny_pure h))
theorem key_cmp {vs : List Value} {k : Value → Int} (hp : ∀ v ∈ vs, IsKey s.heap v (k v)) (inj : ∀ v ∈ vs, ∀ u ∈ vs, k v = k u → v = u) : Cmp prog w A s (tuples' true) (fun p => p.1 ∈ vs) (lt2 fun v u => decide (k v < k u)) := by
  intro p q hm hm'
  have h1 := hp _ hm
  have h2 := hp _ hm'
  have hi := inj _ hm _ hm'
  show wpAny (model prog w) A (keyLt' (tuples' true) p.1 q.1) (fun r s' => s' = s ∧ r = decide (k p.1 < k q.1)) (fun _ _ => False) s
  generalize k p.1 = x at h1 hi ⊢
  generalize k q.1 = x' at h2 hi ⊢
  obtain ⟨a, o, t, b, n, e, ho, hc, hd⟩ := h1
  obtain ⟨a', o', t', b', n', e', ho', hc', hd'⟩ := h2
  rw [e, e'] at hi
  rw [e, e']
  refine PySem.W.kat_lt ho hd ho' hd' ?_
  show PySem.W.KatLex prog w A true (decide (2 < 2)) _ [(.int x t, .int x' t'), (.ref b, .ref b')] 0 s
  refine PySem.W.kat_cons (SeqAt.EqAt.int_int x t x' t' prog w _ _ ?_)
  refine PySem.W.kat_go (fun e1 => ?_) (fun e1 => ?_)
  · have ex : x = x' := by simpa using e1
    have ea := hi ex
    have ea' : a = a' := Value.ref.inj ea
    subst ea' ex
    rw [ho] at ho'
    cases ho'
    rw [hd] at hd'
    have eb : b = b' := by
      injection hd' with h3 _
      have h4 : (#[Value.int x t, Value.ref b] : Array Value)[1]? = (#[Value.int x t', Value.ref b'] : Array Value)[1]? := by rw [h3]
      simpa using h4
    subst eb
    refine PySem.W.kat_yes (PySem.W.kat_cons (eqBool_self ?_))
    exact PySem.W.kat_yes (PySem.W.kat_nil ⟨rfl, (decide_eq_false (Int.lt_irrefl _)).symm⟩)
  · exact PySem.W.kat_no (oneLt_int ⟨rfl, rfl⟩)
theorem firsts_key {h : Heap} : ∀ {vs : List Value}, (∀ v ∈ vs, ∃ x, IsKey h v x) → ∃ fs : List Value, PySem.W.KatTups h vs fs ∧ fs.length = vs.length ∧ ∀ f ∈ fs, ∃ x t, f = Value.int x t
  | [], _ => ⟨[], PySem.W.KatTups.nil, rfl, fun _ hm => by simp at hm⟩
  | v :: vs, hp => by
    obtain ⟨fs, h1, h2, h3⟩ := firsts_key (vs := vs) fun v' hm => hp v' (List.mem_cons_of_mem _ hm)
    obtain ⟨x, a, o, t, u, n, e, ho, hc, hd⟩ := hp v (List.mem_cons_self ..)
    subst e
    refine ⟨.int x t :: fs, PySem.W.KatTups.cons ho hc hd rfl h1, by rw [List.length_cons, List.length_cons, h2], fun f hm => ?_⟩
    rcases List.mem_cons.mp hm with rfl | hm
    · exact ⟨x, t, rfl⟩
    · exact h3 f hm
theorem keys_sortable {a : Addr} {vs : List Value} {k : Value → Int} (h0 : 0 < vs.length) (hp : ∀ v ∈ vs, IsKey s.heap v (k v)) (inj : ∀ v ∈ vs, ∀ u ∈ vs, k v = k u → v = u) (ha : ∀ o, s.heap.get? a = some o → o.cls ≠ .type "tuple") : SortableO prog w A s a vs fun v u => decide (k v < k u) := by
  intro h' keep
  have hp' : ∀ v ∈ vs, IsKey h' v (k v) := fun v hm => (hp v hm).keeps fun b o e c => keep b o (fun z => by subst z; exact ha o e c) e
  obtain ⟨fs, h1, h2, h3⟩ := firsts_key fun v hm => ⟨_, hp' v hm⟩
  refine ⟨tuples' true, fun Q E hq => ?_, key_cmp hp' inj⟩
  refine PySem.W.kat_kind (T := .type "int") h1 (by omega) (fun f hm => ?_) (by rfl) ?_
  · obtain ⟨x, t, rfl⟩ := h3 f hm
    exact PySem.W.Looks.now
  · have e : (Value.type "int" != Value.type "tuple") = true := by first | decide +kernel | rfl | decide
    rw [e]
    exact hq
theorem sorted_keys {l : Addr} {vs : List Value} {k : Value → Int} {Q : Value → Shared → Prop} (hl : s.heap.IsList l vs.toArray) (hz : vs.length ≤ sizeLine) (hp : ∀ v ∈ vs, IsKey s.heap v (k v)) (inj : ∀ v ∈ vs, ∀ u ∈ vs, k v = k u → v = u)
    (h : ∀ (h' : Heap) (d : Addr) (out : List Value), Srtd (fun v u => decide (k v < k u)) out → Stb (fun v u => decide (k v < k u)) out vs → (∀ b o, s.heap.get? b = some o → h'.get? b = some o) → s.heap.objs.size ≤ d → (∃ n, h'.get? d = some (seqObj "list" out.toArray n)) → Q (.ref d) { s with heap := h' }) :
    wpAny (model prog w) A (call (.builtin "sorted") [.ref l]) Q E s := by
  refine sorted_ord (swo_key k) hl hz (fun h2 h₁ a ha kk => ?_) fun out hs hb => ?_
  · refine keys_sortable (s := { s with heap := h₁ }) (by omega) (fun v hm => (hp v hm).keeps fun b o e _ => (kk b o e).2) inj fun o e => ?_
    have e' : some o = some (seqObj "list" vs.toArray 0) := e.symm.trans ha
    cases e'
    intro c
    exact absurd (Value.type.inj c) (by decide)
  · exact h _ _ out hs hb (fun b o e => sortedAll_old e) (Nat.le_succ _) (sortedAll_at s.heap vs out.toArray)
end
end SrtO
namespace Ly
open PySem PySem.Spec PyProof.Rows L2
/-- sorted(xs), xs pairs of an int of its own and an object: a new list by the ints -/
def rSortedK (K : PySem.W.Frag) : List V → Hp → VK → Prop := fun vs H Q => ∃ (a : Addr) (xs : List V) (k : V → Int), vs = [V.ref a] ∧ SqL K H a xs ∧ (∀ x ∈ xs, ∃ t b, x = V.ref t ∧ H t = some (.tup [.int (k x), .ref b])) ∧ (∀ x ∈ xs, ∀ y ∈ xs, k x = k y → x = y) ∧
  ∀ ys p, ys.Pairwise (fun x y => k x ≤ k y) → ys.Perm xs → H p = none → Q (.ref p) (upd H p (.lst ys))
theorem kcr_sortedK {X : Cx} (K : PySem.W.Frag) (eK : X.K = K := by rfl) : CallR X (.builtin "sorted") (rSortedK K) := by
  subst eK
  intro pins s σ H vs us Q I r h
  obtain ⟨a, xs, k, rfl, hs, hx, inj, q⟩ := h
  obtain ⟨its, rv, hl, hz⟩ := I.list hs
  obtain ⟨u, rfl, ru⟩ := vals1 r
  obtain rfl : u = Value.ref a := ru
  obtain ⟨e1, e2⟩ := refs_back rv fun x m => by
    obtain ⟨t, b, e, _⟩ := hx x m
    exact ⟨t, e⟩
  refine SrtO.sorted_keys (k := fun u => k (backV u)) hl.isList (by rw [← rv.length]; exact hz) (fun v hv => ?_) (fun v hv u hu e => ?_) fun h' d out h1 h2 kp hd hn => ?_
  · obtain ⟨t, rfl⟩ := e2 v hv
    have hm : V.ref t ∈ xs := by rw [e1]; exact List.mem_map.mpr ⟨_, hv, rfl⟩
    obtain ⟨t', b, e, ht⟩ := hx _ hm
    cases e
    obtain ⟨_, its2, r2, o, ho, hc, n, hd⟩ := I.hok _ _ ht
    obtain ⟨u1, u2, rfl, ri, rj⟩ := vals2 r2
    obtain ⟨t1, rfl⟩ := ri
    obtain rfl : u2 = Value.ref b := rj
    exact ⟨t, o, t1, b, n, rfl, ho, hc, hd⟩
  · obtain ⟨t, rfl⟩ := e2 v hv
    obtain ⟨t', rfl⟩ := e2 u hu
    have hm : V.ref t ∈ xs := by rw [e1]; exact List.mem_map.mpr ⟨_, hv, rfl⟩
    have hm' : V.ref t' ∈ xs := by rw [e1]; exact List.mem_map.mpr ⟨_, hu, rfl⟩
    have := inj _ hm _ hm' e
    cases this
    rfl
  · have h3 : ∀ u ∈ out, ∃ a, u = Value.ref a := fun u hu => e2 u (h2.perm.mem_iff.mp hu)
    obtain ⟨n, hn⟩ := hn
    have hb : (out.map backV).Perm xs := by
      rw [e1]
      exact h2.perm.map backV
    refine ⟨.ref d, upd H d (.lst (out.map backV)), I.laid (t' := s.toks) kp hd ⟨?_, out, n, vals_back h3, hn⟩, rfl, q _ d ?_ hb (I.hok.fresh hd)⟩
    · rw [hb.length_eq]
      exact hz
    · rw [List.pairwise_map]
      refine List.Pairwise.imp (fun {x y} h => ?_) h1
      have := of_decide_eq_false h
      omega
section
variable {X : Cx} {k : Nat} {C : Addr} {m : Str} {ps : List Str} {sp : Sp} {apos pos : Pos} {o : Expr} {to : TE}
theorem pe_met0 {pl : Sem Bool} (O : Met X.prog X.w X.K X.mg X.base k C m ps sp) (c : Cls X.K C) (hr : Room k X.A) (ho : PE X o to)
    (ht : eval (.Call (.Attribute o m apos) [] [] pos) X.env = (do
      let ov ← eval o X.env
      standAt apos.atName
      let (f, first) ← holding [ov] (getMethod ov m pl)
      callWith pos f first (backTo pos (starEach [] X.env)) (backToKw pos (keywordEach [] X.env))) := by rfl) : PE X (.Call (.Attribute o m apos) [] [] pos) (tMeth C m sp [] E0 to tNil) := by
  obtain ⟨f, fd, F, M, hb⟩ := O.ex
  exact pe_meth0 ho c M F hr hb .nil pass0 ht
end
theorem ksl_list {X : Cx} (K : PySem.W.Frag) (e : X.K = K := by rfl) : SlR X (rSlL K) := by subst e; exact sl_list
end Ly

set_option Elab.async false
set_option linter.all false
set_option maxRecDepth 100000
set_option maxHeartbeats 4000000
/-! a tuple from its end: t[::-1] -/
namespace HT
open PySem PySem.Spec PyProof.Rows L2
section
variable {prog : Program} {w : World} {A : Around} {E : Value → Shared → Prop} {s : Shared}
theorem pick_back (xs : Array Value) : ((List.range xs.size).filterMap fun (m : Nat) => xs[(((xs.size : Int) - 1) + (m : Int) * (-1)).toNat]?).toArray = xs.toList.reverse.toArray := by
  have e : (fun m : Nat => xs[(((xs.size : Int) - 1) + (m : Int) * (-1)).toNat]?) = (fun x : Nat => xs[x]?) ∘ (fun k => xs.size - 1 - k) := by
    funext m
    have h : (((xs.size : Int) - 1) + (m : Int) * (-1)).toNat = xs.size - 1 - m := by omega
    show xs[_]? = xs[_]?
    rw [h]
  rw [e, ← List.filterMap_map, PySem.W.krv_range, List.filterMap_reverse, PySem.W.krv_all]
theorem places_back (n : Nat) : Builtin.Slice.slicePlaces ((n : Int) - 1) (-1) (-1) = n := by
  unfold Builtin.Slice.slicePlaces
  rw [if_neg (by omega)]
  split
  · have e : ((n : Int) - 1 - -1 - 1) / (- -1) = (n : Int) - 1 := by rw [show (- -1 : Int) = 1 by rfl, Int.ediv_one]; omega
    rw [e]; omega
  · omega
theorem adjust_back (n : Nat) : Builtin.Slice.sliceAdjust none none (-1) (n : Int) = ((n : Int) - 1, -1) := by
  unfold Builtin.Slice.sliceAdjust
  rfl
theorem sliceApplied_back {sl : Addr} {t : Tok} {n : Nat} {Q : Int × Int × Nat → Shared → Prop} (hs : s.heap.IsSliceOf sl .none .none (.int (-1) t))
    (h : Q ((n : Int) - 1, -1, n) s) : wpAny (model prog w) A (Builtin.Slice.sliceApplied (.ref sl) (pure (n : Int))) Q E s := by
  obtain ⟨os, hos, hcs, hds⟩ := id hs
  unfold Builtin.Slice.sliceApplied Builtin.Slice.sliceFields
  refine wpAny_bind (wpAny_bind (wpAny_field hos hds (x := .none) rfl (wpAny_bind (wpAny_field hos hds (x := .none) rfl (wpAny_bind (wpAny_field hos hds (x := .int (-1) t) rfl (wpAny_pure ?_)))))))
  refine wpAny_bind (slicePart_int ?_)
  show wpAny _ _ (if ((-1 : Int) == 0) = true then _ else _) _ _ s
  rw [if_neg (by decide)]
  refine wpAny_bind (slicePart_none (wpAny_bind (slicePart_none (wpAny_bind (wpAny_pure ?_)))))
  show wpAny _ _ (match Builtin.Slice.sliceAdjust none none (-1) (n : Int) with | (lo, hi) => pure (lo, (-1 : Int), Builtin.Slice.slicePlaces lo hi (-1))) _ _ s
  rw [adjust_back n]
  show wpAny _ _ (pure (((n : Int) - 1), (-1 : Int), Builtin.Slice.slicePlaces ((n : Int) - 1) (-1) (-1))) _ _ s
  rw [places_back]
  exact wpAny_pure h
theorem getItem_tuple_back {t sl : Addr} {items : Array Value} {u : Tok} {Q : Value → Shared → Prop} (ht : IsTup s.heap t items) (hs : s.heap.IsSliceOf sl .none .none (.int (-1) u))
    (h : Q (.ref s.heap.objs.size) { s with heap := s.heap.push { cls := .type "tuple", data := .seq items.toList.reverse.toArray } })
    (hsz : items.size ≤ sizeLine) : wpAny (model prog w) A (getItem (.ref t) (.ref sl)) Q E s := by
  have htake : sizeOk (.seq items.toList.reverse.toArray) := by
    show items.toList.reverse.toArray.size ≤ sizeLine
    rw [List.size_toArray, List.length_reverse, Array.length_toList]
    exact hsz
  obtain ⟨os, hos, hcs, hds⟩ := id hs
  have hTs : s.TypeIs (.ref sl) "slice" := ⟨os, hos, hcs⟩
  unfold getItem
  try with_reducible refine wpAny_holding ?_
  first | refine wpAny_bind (wpAny_pure ?_) | skip
  refine wpAny_bind (wpAny_sequenceKey ht.typeIs (by decide) ?_)
  refine wpAny_bind (wpAny_callSpecial?_slot (name := Str.ofString "__getitem__") ht.typeIs PyProof.Rows.slot_tuple_getitem
    (wpAny_call_entry PyProof.Rows.slot_tuple_getitem ht.typeIs entry_tuple_getitem ?_ (args_tuple_getitem _ _)))
  show wpAny _ _ (Builtin.Tuple.tupleItemsOf (.ref t) >>= _) _ _ s
  refine wpAny_bind (tupleItemsOf_ ht ?_)
  refine wpAny_bind (wpAny_typeOf hTs ?_)
  rw [if_pos (by decide)]
  refine wpAny_bind (sliceApplied_back hs ?_)
  have hno : ¬ ((((items.size : Int) - 1) == 0 && (-1 : Int) == 1 && items.size == items.size) = true) := by
    intro q
    rw [Bool.and_eq_true, Bool.and_eq_true] at q
    exact absurd q.1.2 (by decide)
  show wpAny _ _ (if (((items.size : Int) - 1) == 0 && (-1 : Int) == 1 && items.size == items.size) = true then _ else _) _ _ s
  rw [if_neg hno, pick_back]
  first
    | exact wpAny_bind (m := Builtin.Tuple.tupleExact _) (wpAny_newObj_type (wpAny_pure ⟨_, rfl, wpAny_pure h⟩) htake)
    | exact wpAny_bind (m := Builtin.Tuple.tupleExact _) (wpAny_newObj_type (wpAny_bind (wpAny_pure (wpAny_pure ⟨_, rfl, wpAny_pure h⟩))) htake)
    | exact wpAny_bind (wpAny_bind (m := Builtin.Tuple.tupleExact _) (wpAny_newObj_type (wpAny_pure (wpAny_pure ⟨_, rfl, wpAny_pure h⟩)) htake))
    | exact wpAny_bind (wpAny_bind (m := Builtin.Tuple.tupleExact _) (wpAny_newObj_type (wpAny_pure ⟨_, rfl, wpAny_pure h⟩) htake))
end
end HT
namespace Ly
open PySem PySem.Spec PyProof.Rows L2
section
variable {X : Cx}
def tRevT (K : PySem.W.Frag) (te : TE) : TE := fun σ H Q => te σ H fun x H1 => ∃ a xs, x = .ref a ∧ SqT K H1 a xs ∧ ∀ p, H1 p = none → Q (.ref p) (upd H1 p (.tup xs.reverse))
theorem pe_revT {e : Expr} {te : TE} {k : Nat} {p1 p2 p3 pos : Pos} (he : PE X e te) : PE X (.Subscript e (.Slice none none (some (.UnaryOp .USub (.Constant (.int 1) k p1) p2)) p3) pos) (tRevT X.K te) := by
  refine ⟨fun pins s σ H Q I h => ?_⟩
  refine Subscript_ (thn (he.run pins s σ H _ I h) fun v s1 ⟨x, H1, I1, r1, q1⟩ => ?_)
  obtain ⟨a, xs, ex, hx, q⟩ := q1
  subst ex
  cases r1
  have hst : PO X (some (.UnaryOp .USub (.Constant (.int 1) k p1) p2)) (tPart (tUn (rU fun i => .int (-i)) (tC (.int 1)))) := po_some (pe_un un_neg pe_int)
  refine wpAny_Slice (thn (po_none.run pins s1 σ H1 (fun o H2 => o = none ∧ H2 = H1) I1 ⟨rfl, rfl⟩) fun vl s2 ⟨l, H2, I2, pl, el, e2⟩ => ?_)
  subst el e2
  cases pl
  refine thn (po_none.run pins s2 σ H2 (fun o H3 => o = none ∧ H3 = H2) I2 ⟨rfl, rfl⟩) fun vu s3 ⟨u, H3, I3, pu, eu, e3⟩ => ?_
  subst eu e3
  cases pu
  refine thn (hst.run pins s3 σ H3 (fun o H4 => o = some (-1) ∧ H4 = H3) I3 ⟨1, rfl, -1, rfl, rfl, rfl⟩) fun vs s4 ⟨o, H4, I4, ps, eo, e4⟩ => ?_
  subst eo e4
  cases ps with
  | int i tk =>
  have I5 : Inv X pins σ H4 { s4 with heap := s4.heap.push { cls := .type "slice", data := .fields #[.none, .none, .int (-1) tk] } } := I4.kept (t' := s4.toks) fun b ob q => Heap.get?_push_of_some _ q
  obtain ⟨its, r, ht, hz⟩ := I5.tuple hx
  have hlen := r.length
  show wpAny (model X.prog X.w) X.A (subscriptTail e (.Slice none none (some (.UnaryOp .USub (.Constant (.int 1) k p1) p2)) p3) (.ref a) (.ref s4.heap.objs.size)) (EP X pins σ Q) X.xe { s4 with heap := s4.heap.push { cls := .type "slice", data := .fields #[.none, .none, .int (-1) tk] } }
  refine tail_any (ops := [.ref a, .ref s4.heap.objs.size]) ht.typeIs (PyProof.Rows.slot_tuple_getitem.lookup) ?_ (by with_unfolding_all rfl)
  refine HT.getItem_tuple_back ht (Heap.IsSliceOf.new _ .none .none (.int (-1) tk)) ?_ (by rw [List.size_toArray]; omega)
  refine ⟨.ref _, _, I5.laid (t' := s4.toks) (o := .tup xs.reverse) (fun b ob q => Heap.get?_push_of_some _ q) (Nat.le_refl _) ?_, rfl, q _ (I5.hok.fresh (Nat.le_refl _))⟩
  exact ⟨by rw [List.length_reverse]; exact hz, _, r.reverse, IsTup.new _ _⟩
theorem kpe_revT (K : PySem.W.Frag) {e : Expr} {te : TE} {k : Nat} {p1 p2 p3 pos : Pos} (he : PE X e te) (eK : X.K = K := by rfl) : PE X (.Subscript e (.Slice none none (some (.UnaryOp .USub (.Constant (.int 1) k p1) p2)) p3) pos) (tRevT K te) := by subst eK; exact pe_revT he
def rInDT (K : PySem.W.Frag) : R2 := fun x y H Q => ∃ d ds, Dp K H x d ∧ Dp K H y (.tuple ds) ∧ SeqAt.shaped d = true ∧ SeqAt.shaped (.tuple ds) = true ∧ Q (.bl (ds.any fun z => PyData.eqv z d)) H
theorem op_inDT (hu : X.A.units + 65 < cLine) : OpR X (compareOp .In) (rInDT X.K) := by
  intro pins s σ H x y v u Q I rx ry h
  obtain ⟨d, ds, hd, he, sd, se, q⟩ := h
  obtain ⟨as, r1⟩ := Dp.reads I d x v hd rx
  obtain ⟨bs, r2⟩ := Dp.reads I (.tuple ds) y u he ry
  exact SeqAt.in_tuple_reads r2 r1 (SeqAt.canLay_of_shaped se) (SeqAt.canLay_of_shaped sd) (room_in_shaped sd hu) ⟨.bl _, H, I, rfl, q⟩
theorem kop_inDT (K : PySem.W.Frag) (hu : X.A.units + 65 < cLine) (e : X.K = K := by rfl) : OpR X (compareOp .In) (rInDT K) := by subst e; exact op_inDT hu
theorem kop_in (K : PySem.W.Frag) (e : X.K = K := by rfl) : OpR X (compareOp .In) (rIn K false) := by subst e; exact op_in_seq
end
end Ly

set_option Elab.async false
set_option linter.all false
set_option maxRecDepth 100000
/-! as many held rows as columns: all are held -/
namespace El
open Mt
theorem pig : ∀ (n : Nat) (l : List Nat), l.Nodup → (∀ x ∈ l, x < n) → l.length ≤ n
  | 0, l, _, h => by
    cases l with
    | nil => exact Nat.le_refl _
    | cons x l => have := h x (List.mem_cons_self ..); omega
  | n + 1, l, nd, h => by
    have h1 : (l.erase n).Nodup := nd.erase n
    have h2 : ∀ x ∈ l.erase n, x < n := fun x hx => by
      have h3 := (List.Nodup.mem_erase_iff nd).mp hx
      have h4 := h x h3.2
      have h5 := h3.1
      omega
    have h3 := pig n (l.erase n) h1 h2
    by_cases hn : n ∈ l
    · rw [List.length_erase_of_mem hn] at h3
      omega
    · rw [List.erase_of_not_mem hn] at h3
      omega
theorem pig_all {n : Nat} {l : List Nat} (nd : l.Nodup) (h : ∀ x ∈ l, x < n) (e : l.length = n) {q : Nat} (hq : q < n) : q ∈ l := by
  refine Classical.byContradiction fun hn => ?_
  have := pig n (q :: l) (List.nodup_cons.mpr ⟨hn, nd⟩) (fun x hx => by
    rcases List.mem_cons.mp hx with rfl | hx
    · exact hq
    · exact h x hx)
  rw [List.length_cons] at this
  omega
section
variable {s : Rat} {E size N : Nat} {held : HL} {taken : List Fn} (R : RL s E size N held taken)
include R
theorem RL.pivs : (held.map (·.1)).Nodup := by
  rw [List.Nodup, List.pairwise_map, List.pairwise_iff_getElem]
  intro i j hi hj hij
  have hd := R.red.delta i j (held[i].1, fn held[i].2) (held[j].1, fn held[j].2) (by unfold fh; rw [List.getElem?_map, List.getElem?_eq_getElem hi]; rfl) (by unfold fh; rw [List.getElem?_map, List.getElem?_eq_getElem hj]; rfl)
  have hi2 := R.red.delta i i (held[i].1, fn held[i].2) (held[i].1, fn held[i].2) (by unfold fh; rw [List.getElem?_map, List.getElem?_eq_getElem hi]; rfl) (by unfold fh; rw [List.getElem?_map, List.getElem?_eq_getElem hi]; rfl)
  rw [if_neg (by omega)] at hd
  rw [if_pos rfl] at hi2
  intro e
  have e1 : fn held[i].2 held[i].1 = fn held[i].2 held[j].1 := by rw [e]
  have e2 : fn held[i].2 held[j].1 = 0 := hd
  have e3 : fn held[i].2 held[i].1 = 1 := hi2
  rw [e3, e2] at e1
  exact absurd e1 (by decide)
theorem RL.piv_lt : ∀ x ∈ held, x.1 < size := fun x hx => R.red.piv (x.1, fn x.2) (List.mem_map.mpr ⟨x, hx, rfl⟩)
theorem RL.le_size : held.length ≤ size := by
  have := pig size (held.map (·.1)) R.pivs (fun x hx => by
    obtain ⟨y, hy, rfl⟩ := List.mem_map.mp hx
    exact R.piv_lt y hy)
  rw [List.length_map] at this
  exact this
theorem RL.all_piv (e : held.length = size) {q : Nat} (hq : q < size) : ∃ r, (q, r) ∈ held := by
  have := pig_all R.pivs (fun x hx => by
    obtain ⟨y, hy, rfl⟩ := List.mem_map.mp hx
    exact R.piv_lt y hy) (by rw [List.length_map]; exact e) hq
  obtain ⟨y, hy, rfl⟩ := List.mem_map.mp this
  exact ⟨y.2, hy⟩
/-- when all columns are pivots, nothing is left of a row -/
theorem RL.full (e : held.length = size) {r : List Rat} (hr : r.length = N) : first (clr r held) size = none := by
  unfold first
  rw [List.find?_eq_none]
  intro q hq
  obtain ⟨u, hu⟩ := R.all_piv e (List.mem_range.mp hq)
  have h := R.red.lft_piv (fn r) (y := (q, fn u)) (List.mem_map.mpr ⟨(q, u), hu, rfl⟩)
  rw [R.clr_fn hr]
  simp [h]
theorem RL.tin_full (e : held.length = size) {r : List Rat} (hr : r.length = N) : tin held r size = held := by
  have h := R.full e hr
  unfold tin; rw [h]
end
end El

set_option Elab.async false
set_option linter.all false
set_option maxRecDepth 100000
/-! rows that add nothing; the unit matrix -/
namespace El
open Mt
/-- what is 0 at each pivot stays -/
theorem clr_stay : ∀ {h : HL} {e : List Rat}, (∀ x ∈ h, x.2.length = e.length ∧ fn e x.1 = 0) → clr e h = e
  | [], e, _ => rfl
  | (p, r) :: h, e, k => by
    have h1 := k (p, r) (List.mem_cons_self ..)
    show clr (sub e (fn e p) r) h = e
    have h2 : fn e p = 0 := h1.2
    rw [h2, sub_zero h1.1.symm]
    exact clr_stay fun x hx => k x (List.mem_cons_of_mem _ hx)
theorem tins_cons {size : Nat} {e : List Rat} {es : List (List Rat)} {held : HL} : tins size (e :: es) held = tins size es (tin held e size) := rfl
def Fine (N size : Nat) (held : HL) : Prop := ∀ x ∈ held, x.2.length = N ∧ x.1 < size
theorem Fine.tin {N size : Nat} {held : HL} (h : Fine N size held) {e : List Rat} (he : e.length = N) : Fine N size (tin held e size) := fun x hx => by
  refine ⟨tin_len (fun y hy => (h y hy).1) he x hx, ?_⟩
  unfold El.tin at hx
  cases hf : first (clr e held) size with
  | none => rw [hf] at hx; exact (h x hx).2
  | some p =>
    rw [hf] at hx
    rcases List.mem_append.mp hx with hx | hx
    · obtain ⟨y, hy, rfl⟩ := List.mem_map.mp hx
      exact (h y hy).2
    · rw [List.mem_singleton.mp hx]
      exact (first_some hf).1
theorem tins_dead {N size : Nat} {e0 : List Rat} (dead : ∀ held : HL, Fine N size held → tin held e0 size = held) : ∀ {es : List (List Rat)} {held : HL}, Fine N size held → (∀ e ∈ es, e.length = N) → e0 ∈ es → (tins size es held).length + 1 ≤ held.length + es.length
  | [], _, _, _, m => by simp at m
  | e :: es, held, f, l, m => by
    rw [tins_cons, List.length_cons]
    by_cases he : e = e0
    · rw [he, dead held f]
      have := tins_length (size := size) (es := es) (held := held)
      omega
    · have m2 : e0 ∈ es := by
        rcases List.mem_cons.mp m with m | m
        · exact absurd m.symm he
        · exact m
      have ih := tins_dead dead (f.tin (l e (List.mem_cons_self ..))) (fun x hx => l x (List.mem_cons_of_mem _ hx)) m2
      have := tin_length (held := held) (e := e) (size := size)
      omega
theorem first_none_of {e : List Rat} {n : Nat} (h : ∀ q, q < n → fn e q = 0) : first e n = none := by
  unfold first
  rw [List.find?_eq_none]
  intro q hq
  have := h q (List.mem_range.mp hq)
  simp [this]
theorem exts_get {rows : List (List Rat)} {i : Nat} {r : List Rat} (h : rows[i]? = some r) : (exts rows)[i]? = some (r ++ unitL i rows.length) := by
  have hi := (List.getElem?_eq_some_iff.mp h).1
  unfold exts
  rw [List.getElem?_map, List.getElem?_range hi]
  show some (rows.getD i [] ++ _) = _
  rw [List.getD_eq_getElem?_getD, h]; rfl
theorem exts_len' (rows : List (List Rat)) : (exts rows).length = rows.length := by unfold exts; simp
/-- a zero row holds nothing: fewer rows are held than given -/
theorem zero_short {rows : List (List Rat)} {n : Nat} (hl : ∀ r ∈ rows, r.length = n) (h0 : List.replicate n 0 ∈ rows) : (solved rows n).length < rows.length := by
  obtain ⟨i, hi, e⟩ := List.getElem_of_mem h0
  have hg := exts_get (rows := rows) (i := i) (r := List.replicate n 0) (by rw [List.getElem?_eq_getElem hi, e])
  have z : ∀ q, q < n → fn (List.replicate n 0 ++ unitL i rows.length) q = 0 := fun q hq => by
    rw [fn_app_left (by rw [List.length_replicate]; exact hq)]
    exact fn_get (by rw [List.getElem?_replicate, if_pos hq])
  have len0 : (List.replicate n (0 : Rat) ++ unitL i rows.length).length = n + rows.length := by rw [List.length_append, List.length_replicate, unitL_length]
  have lens : ∀ e ∈ exts rows, e.length = n + rows.length := fun e he => by
    unfold exts at he
    obtain ⟨j, hj, rfl⟩ := List.mem_map.mp he
    have hj' := List.mem_range.mp hj
    rw [List.length_append, unitL_length, List.getD_eq_getElem?_getD, List.getElem?_eq_getElem hj']
    show rows[j].length + _ = _
    rw [hl _ (List.getElem_mem hj')]
  have := tins_dead (N := n + rows.length) (size := n) (e0 := List.replicate n 0 ++ unitL i rows.length) (fun held f => by
    have hc : clr (List.replicate n 0 ++ unitL i rows.length) held = List.replicate n 0 ++ unitL i rows.length := clr_stay fun x hx => ⟨by rw [(f x hx).1, len0], z _ (f x hx).2⟩
    unfold tin
    rw [hc, first_none_of z]) (es := exts rows) (held := []) (fun x hx => by simp at hx) lens (List.mem_of_getElem? hg)
  rw [exts_len', List.length_nil] at this
  unfold solved
  omega
/-! ### the unit matrix -/
def unitM (n : Nat) : List (List Rat) := (List.range n).map fun k => unitL k n
theorem unitM_length (n : Nat) : (unitM n).length = n := by unfold unitM; simp
theorem unitM_rows {n : Nat} : ∀ r ∈ unitM n, r.length = n := fun r hr => by
  obtain ⟨k, _, rfl⟩ := List.mem_map.mp hr
  exact unitL_length
def heldU (n i : Nat) : HL := (List.range i).map fun k => (k, unitL k n ++ unitL k n)
theorem fn_uu {n k q : Nat} (hq : q < n) : fn (unitL k n ++ unitL k n) q = if q = k then 1 else 0 := by
  rw [fn_app_left (by rw [unitL_length]; exact hq), fn_unitL hq]
theorem tin_unit {n i : Nat} (hi : i < n) : tin (heldU n i) (unitL i n ++ unitL i n) n = heldU n (i + 1) := by
  have hc : clr (unitL i n ++ unitL i n) (heldU n i) = unitL i n ++ unitL i n := clr_stay fun x hx => by
    obtain ⟨k, hk, rfl⟩ := List.mem_map.mp hx
    have hk' := List.mem_range.mp hk
    refine ⟨by simp [unitL_length], ?_⟩
    show fn (unitL i n ++ unitL i n) k = 0
    rw [fn_uu (by omega), if_neg (by omega)]
  have hf : first (unitL i n ++ unitL i n) n = some i := by
    unfold first
    rw [List.find?_range_eq_some]
    refine ⟨by rw [fn_uu hi, if_pos rfl]; decide, List.mem_range.mpr hi, fun j hj => ?_⟩
    rw [fn_uu (by omega), if_neg (by omega)]; decide
  have hn : nrm (unitL i n ++ unitL i n) i = unitL i n ++ unitL i n := by
    unfold nrm
    rw [fn_uu hi, if_pos rfl]
    conv => rhs; rw [← List.map_id (unitL i n ++ unitL i n)]
    refine List.map_congr_left fun x _ => ?_
    show x / 1 = x
    grind
  unfold tin
  rw [hc, hf]
  show (heldU n i).map _ ++ [(i, nrm (unitL i n ++ unitL i n) i)] = _
  rw [hn]
  unfold heldU
  rw [List.range_succ, List.map_append, List.map_map]
  congr 1
  refine List.map_congr_left fun k hk => ?_
  have hk' := List.mem_range.mp hk
  show (k, sub (unitL k n ++ unitL k n) (fn (unitL k n ++ unitL k n) i) (unitL i n ++ unitL i n)) = _
  rw [fn_uu hi, if_neg (by omega), sub_zero (by simp [unitL_length])]
theorem tins_unit {n : Nat} : ∀ i, i ≤ n → tins n ((exts (unitM n)).take i) [] = heldU n i
  | 0, _ => rfl
  | i + 1, hi => by
    have hg := exts_get (rows := unitM n) (i := i) (r := unitL i n) (by unfold unitM; rw [List.getElem?_map, List.getElem?_range (by omega)]; rfl)
    rw [unitM_length] at hg
    rw [List.take_add_one, hg]
    show tins n ((exts (unitM n)).take i ++ [unitL i n ++ unitL i n]) [] = _
    rw [tins_snoc, tins_unit i (by omega), tin_unit (by omega)]
theorem unit_full (n : Nat) : (solved (unitM n) n).length = n := by
  unfold solved
  have h := tins_unit (n := n) n (Nat.le_refl _)
  rw [List.take_of_length_le (by rw [exts_len', unitM_length]; omega)] at h
  rw [h]
  unfold heldU; simp
end El

set_option Elab.async false
set_option linter.all false
set_option maxRecDepth 100000
set_option exponentiation.threshold 20000
namespace K42
open PySem PySem.Spec PyProof.Rows L2 Ly Mt El
def topS (i : Nat) : Stmt := PySem.Challenge.pw_sameontrees_k42_refusals_of_matrices.main.body.getD i (.Pass ⟨0, 0, 0, 0⟩)
/-- the i-th statement of a class -/
def inClass : Stmt → Nat → Stmt
  | .ClassDef _ _ _ body _ _ _ _ _ _ _, i => body.getD i (.Pass ⟨0, 0, 0, 0⟩)
  | s, _ => s
/-- what the module's names hold -/
structure Tx (K : PySem.W.Frag) (mg : Str → Option Value) (C : Addr) : Prop where
  m_isinstance : mg "isinstance" = none
  m_len : mg "len" = none
  m_int : mg "int" = none
  m_bool : mg "bool" = none
  m_tuple : mg "tuple" = none
  m_str : mg "str" = none
  m_list : mg "list" = none
  m_abs : mg "abs" = none
  m_all : mg "all" = none
  m_zip : mg "zip" = none
  m_range : mg "range" = none
  m_enumerate : mg "enumerate" = none
  g_gcd : mg "gcd" = some (.builtin "math.gcd")
  g_MOST_ENTRIES : ∃ u, mg "MOST_ENTRIES" = some u ∧ L2.RelV (.int 48) u
  zero : ∃ a, mg "ZERO" = some (.ref a) ∧ ∀ H, ITup K H a [.int 0, .int 1]
  one : ∃ a, mg "ONE" = some (.ref a) ∧ ∀ H, ITup K H a [.int 1, .int 1]
  c_Solver : mg "Solver" = some (.ref C)
  cl : Cls K C
  a_size : NoAttr K C "size"
  a_rows_given : NoAttr K C "rows_given"
  a_held : NoAttr K C "held"
def jInt : PyData → Bool
  | .int _ => true
  | _ => false
theorem jInt_as : ∀ d, jInt d = (jIntB d && !jBool d)
  | .none => rfl
  | .bool _ => rfl
  | .int _ => rfl
  | .str _ => rfl
  | .tuple _ => rfl
  | .list _ => rfl
  | .dict _ => rfl
def jPair : PyData → Bool
  | .tuple ds => decide (ds.length = 2)
  | _ => false
def jRatio : PyData → Bool
  | .tuple [.int t, .int b] => decide (1 ≤ b) && decide (Nat.gcd t.natAbs b.natAbs = 1)
  | _ => false
section
variable {P : Program} {w : World} {K : PySem.W.Frag} {mg : Str → Option Value} {base : Heap} {C : Addr}

abbrev s_is_int : Stmt := topS 8
theorem sc_is_int : FnScope ["thing"] ["thing"] (defScope s_is_int) := ⟨rfl, rfl, rfl, by decide +kernel, rfl, by decide +kernel, by decide +kernel⟩
def sp_is_int (K : PySem.W.Frag) : Sp := fun vs H Q _ => ∃ v d, vs = [v] ∧ Dp K H v d ∧ Q (.bl (jInt d)) H
theorem ok_is_int {f : Addr} {fd : FuncData} {k : Nat} (F : Fun K "is_int" "is_int" s_is_int f fd) (T : Tx K mg C) : FnOk P w K mg base CX0 (k + 1) f fd ["thing"] (sp_is_int K) := by
  have nd := sc_is_int.nd
  refine F.ok sc_is_int (fun vs H Q E h => ?_) (fun cdv A outer s H vs Q E hr h => ?_)
  · obtain ⟨_, _, rfl, _⟩ := h
    rfl
  · obtain ⟨v, d, rfl, hd, q⟩ := h
    refine ⟨_, (pss_one (ps_ret (pe_and (pe_callB (kcall_isi K) (by rfl) T.m_isinstance (by decide +kernel) (pa_cons (pv 0) (pa_cons (pe_bltn (v := .ty "int") (u := .type "int") (by rfl) T.m_int (by decide +kernel) rfl) pa_nil))) (pe_one (pe_not (pe_callB (kcall_isi K) (by rfl) T.m_isinstance (by decide +kernel) (pa_cons (pv 0) (pa_cons (pe_bltn (v := .ty "bool") (u := .type "bool") (by rfl) T.m_bool (by decide +kernel) rfl) pa_nil)))))))), ?_⟩
    refine ⟨v, rfl, v, _, .type (tyName d), _, jIntB d, rfl, .ty _, dp_ty hd, kit_ty (kit_int d), jIntB d, rfl, ?_⟩
    rw [jInt_as] at q
    cases h1 : jIntB d with
    | false => rw [h1] at q; exact iteF q
    | true =>
      rw [h1] at q
      exact iteT ⟨v, rfl, v, _, .type (tyName d), _, jBool d, rfl, .ty _, dp_ty hd, kit_ty (kit_bool d), jBool d, rfl, q⟩

abbrev s_is_pair : Stmt := topS 9
theorem sc_is_pair : FnScope ["thing"] ["thing"] (defScope s_is_pair) := ⟨rfl, rfl, rfl, by decide +kernel, rfl, by decide +kernel, by decide +kernel⟩
def sp_is_pair (K : PySem.W.Frag) : Sp := fun vs H Q _ => ∃ v d, vs = [v] ∧ Dp K H v d ∧ Q (.bl (jPair d)) H
theorem ok_is_pair {f : Addr} {fd : FuncData} {k : Nat} (F : Fun K "is_pair" "is_pair" s_is_pair f fd) (T : Tx K mg C) : FnOk P w K mg base CX0 (k + 1) f fd ["thing"] (sp_is_pair K) := by
  have nd := sc_is_pair.nd
  refine F.ok sc_is_pair (fun vs H Q E h => ?_) (fun cdv A outer s H vs Q E hr h => ?_)
  · obtain ⟨_, _, rfl, _⟩ := h
    rfl
  · obtain ⟨v, d, rfl, hd, q⟩ := h
    refine ⟨_, (pss_one (ps_ret (pe_and (pe_callB (kcall_isi K) (by rfl) T.m_isinstance (by decide +kernel) (pa_cons (pv 0) (pa_cons (pe_bltn (v := .ty "tuple") (u := .type "tuple") (by rfl) T.m_tuple (by decide +kernel) rfl) pa_nil))) (pe_one (pe_cmpR op_eq (pe_callB (kcall_len K) (by rfl) T.m_len PySem.boot_len (pa_cons (pv 0) pa_nil)) pe_int (nomark _)))))), ?_⟩
    refine ⟨v, rfl, v, _, .type (tyName d), _, jTup d, rfl, .ty _, dp_ty hd, kit_ty (kit_tup d), jTup d, rfl, ?_⟩
    cases hd with
    | @tup a xs ds ha hx =>
      have l := dpAll_len hx
      refine iteT ⟨.ref a, rfl, a, xs, rfl, .inr ha, rfl, ?_⟩
      have e : decide (V.int (xs.length : Nat) = V.int 2) = jPair (.tuple ds) := by
        show _ = decide (ds.length = 2)
        by_cases h : ds.length = 2
        · rw [decide_eq_true h, decide_eq_true (by rw [l, h]; rfl)]
        · rw [decide_eq_false h, decide_eq_false (fun z => h (by have := V.int.inj z; omega))]
      rw [e]
      exact q
    | non => exact iteF q
    | bl b => exact iteF q
    | int i => exact iteF q
    | str x => exact iteF q
    | lst _ _ => exact iteF q

abbrev s_is_ratio : Stmt := topS 13
theorem sc_is_ratio : FnScope ["thing"] ["thing"] (defScope s_is_ratio) := ⟨rfl, rfl, rfl, by decide +kernel, rfl, by decide +kernel, by decide +kernel⟩
def sp_is_ratio (K : PySem.W.Frag) : Sp := fun vs H Q _ => ∃ v d, vs = [v] ∧ Dp K H v d ∧ Q (.bl (jRatio d)) H
theorem ok_is_ratio {f : Addr} {fd : FuncData} {k : Nat} (F : Fun K "is_ratio" "is_ratio" s_is_ratio f fd) (T : Tx K mg C){ki : Nat} (D_is_pair : Def P w K mg base ki "is_pair" s_is_pair ["thing"] (sp_is_pair K)) (D_is_int : Def P w K mg base ki "is_int" s_is_int ["thing"] (sp_is_int K)) (hk : ki ≤ k) : FnOk P w K mg base CX0 (k + 1) f fd ["thing"] (sp_is_ratio K) := by
  have nd := sc_is_ratio.nd
  refine F.ok sc_is_ratio (fun vs H Q E h => ?_) (fun cdv A outer s H vs Q E hr h => ?_)
  · obtain ⟨_, _, rfl, _⟩ := h
    rfl
  · obtain ⟨v, d, rfl, hd, q⟩ := h
    refine ⟨_, (pss_cons (ps_if (PW.pt (pw_or (pt_not (pt_val (pe_def D_is_pair (hr.mono (by omega)) rfl (pa_cons (pv 0) pa_nil)))) (pw_or (pt_not (pt_val (pe_def D_is_int (hr.mono (by omega)) rfl (pa_cons (pe_ix (kix_tup K) (pv 0) pe_int (fun _ _ => rfl)) pa_nil)))) (pw_or (pt_not (pt_val (pe_def D_is_int (hr.mono (by omega)) rfl (pa_cons (pe_ix (kix_tup K) (pv 0) pe_int (fun _ _ => rfl)) pa_nil)))) (pw_or1 (pt_cmpR op_lt (pe_ix (kix_tup K) (pv 0) pe_int (fun _ _ => rfl)) pe_int (nomark _)))))))
        (pss_one (ps_ret pe_bl))
        pss_nil)
      (pss_one (ps_ret (pe_cmpR op_eq (pe_callBfun cr_gcd (by rfl) T.g_gcd (pa_cons (pe_ix (kix_tup K) (pv 0) pe_int (fun _ _ => rfl)) (pa_cons (pe_ix (kix_tup K) (pv 0) pe_int (fun _ _ => rfl)) pa_nil))) pe_int (nomark _))))), ?_⟩
    refine ⟨v, rfl, v, d, rfl, hd, jPair d, rfl, ?_⟩
    cases hp : jPair d with
    | false =>
      have e : jRatio d = false := by
        cases d with
        | tuple ds =>
          have h2 : ¬ ds.length = 2 := of_decide_eq_false hp
          match ds, h2 with
          | [], _ => rfl
          | [x], _ => cases x <;> rfl
          | [_, _], h => exact absurd rfl h
          | x :: y :: _ :: _, _ => cases x <;> first | rfl | (cases y <;> rfl)
        | _ => rfl
      rw [e] at q
      exact iteT q
    | true =>
      refine iteF ?_
      cases hd with
      | @tup a xs ds ha hx =>
        have h2 : ds.length = 2 := of_decide_eq_true hp
        obtain ⟨d0, d1, rfl⟩ : ∃ d0 d1, ds = [d0, d1] := by
          match ds, h2 with
          | [x, y], _ => exact ⟨x, y, rfl⟩
        cases hx with
        | @cons v0 vs0 _ _ i0 r0 =>
          cases r0 with
          | @cons v1 vs1 _ _ i1 r1 =>
            cases r1
            refine ⟨.ref a, rfl, a, _, 0, _, rfl, rfl, ha, atI_nat (j := 0) rfl, v0, d0, rfl, i0, jInt d0, rfl, ?_⟩
            cases i0 with
            | int t =>
              refine iteF ⟨.ref a, rfl, a, _, 1, _, rfl, rfl, ha, atI_nat (j := 1) rfl, v1, d1, rfl, i1, jInt d1, rfl, ?_⟩
              cases i1 with
              | int b =>
                refine iteF ⟨.ref a, rfl, a, _, 1, _, rfl, rfl, ha, atI_nat (j := 1) rfl, _, _, rfl, rfl, _, rfl, ?_⟩
                have ej : jRatio (.tuple [.int t, .int b]) = (decide (1 ≤ b) && decide (Nat.gcd t.natAbs b.natAbs = 1)) := rfl
                rw [ej] at q
                by_cases hb : b < 1
                · rw [decide_eq_true hb]
                  rw [decide_eq_false (show ¬ 1 ≤ b by omega)] at q
                  exact iteT q
                · rw [decide_eq_false hb]
                  rw [decide_eq_true (show 1 ≤ b by omega)] at q
                  refine iteF ⟨.ref a, rfl, a, _, 0, _, rfl, rfl, ha, atI_nat (j := 0) rfl, .ref a, rfl, a, _, 1, _, rfl, rfl, ha, atI_nat (j := 1) rfl, _, _, rfl, rfl, ?_⟩
                  have e2 : decide (V.int ((Nat.gcd t.natAbs b.natAbs : Nat) : Int) = V.int 1) = decide (Nat.gcd t.natAbs b.natAbs = 1) := by
                    by_cases h : Nat.gcd t.natAbs b.natAbs = 1
                    · rw [decide_eq_true h, decide_eq_true (by rw [h]; rfl)]
                    · rw [decide_eq_false h, decide_eq_false (fun z => h (by have := V.int.inj z; omega))]
                  rw [e2]
                  exact q
              | non => exact iteT q
              | bl b => exact iteT q
              | str x => exact iteT q
              | lst _ _ => exact iteT q
              | tup _ _ => exact iteT q
            | non => exact iteT q
            | bl b => exact iteT q
            | str x => exact iteT q
            | lst _ _ => exact iteT q
            | tup _ _ => exact iteT q
      | non => cases hp
      | bl b => cases hp
      | int i => cases hp
      | str x => cases hp
      | lst _ _ => cases hp
end
end K42

set_option Elab.async false
set_option linter.all false
set_option maxRecDepth 100000
set_option exponentiation.threshold 20000
namespace K42
open PySem PySem.Spec PyProof.Rows L2 Ly Mt El
def jVec : PyData → Bool
  | .tuple ds => decide (ds.length ≤ 48) && ds.all jRatio
  | _ => false
def rowLen : PyData → Nat
  | .tuple l => l.length
  | _ => 0
def jMat : PyData → Bool
  | .tuple ds => decide (ds.length ≤ 48) && ds.all jVec && ds.all (fun r => decide (rowLen r = rowLen (ds.getD 0 .none)))
  | _ => false
theorem jVec_tup : ∀ {d : PyData}, jVec d = true → ∃ ds, d = .tuple ds
  | .tuple ds, _ => ⟨ds, rfl⟩
section
variable {P : Program} {w : World} {K : PySem.W.Frag} {mg : Str → Option Value} {base : Heap} {C : Addr}
/-- a judge's answers, one by one, in the list at D -/
theorem bools_snoc {D : Addr} {H H2 : Hp} {j : PyData → Bool} {ds : List PyData} {i : Nat} {d : PyData} (sm : Same H H2) (hD : H D = none) (eD : H2 D = some (.lst (((ds.take i).map j).map V.bl))) (hd : ds[i]? = some d) :
    Same H (upd H2 D (.lst ((((ds.take i).map j).map V.bl) ++ [.bl (j d)]))) ∧ (upd H2 D (.lst ((((ds.take i).map j).map V.bl) ++ [.bl (j d)]))) D = some (.lst (((ds.take (i + 1)).map j).map V.bl)) := by
  refine ⟨fun b o e => ?_, ?_⟩
  · rw [upd_ne (ne_of_none e hD)]; exact sm _ _ e
  · rw [upd_same, List.take_add_one, hd, List.map_append, List.map_append]; rfl
theorem all_map (j : PyData → Bool) (ds : List PyData) : ((ds.map j).all id) = ds.all j := by
  rw [List.all_map]; rfl

abbrev s_is_vector : Stmt := topS 22
theorem sc_is_vector : FnScope ["thing", "entry"] ["thing"] (defScope s_is_vector) := ⟨rfl, rfl, rfl, by decide +kernel, rfl, by decide +kernel, by decide +kernel⟩
def sp_is_vector (K : PySem.W.Frag) : Sp := fun vs H Q _ => ∃ v d, vs = [v] ∧ Dp K H v d ∧ ∀ H', Same H H' → Q (.bl (jVec d)) H'
theorem ok_is_vector {f : Addr} {fd : FuncData} {k : Nat} (F : Fun K "is_vector" "is_vector" s_is_vector f fd) (T : Tx K mg C){ki : Nat} (D_is_ratio : Def P w K mg base ki "is_ratio" s_is_ratio ["thing"] (sp_is_ratio K)) (hk : ki ≤ k) : FnOk P w K mg base CX0 (k + 1) f fd ["thing"] (sp_is_vector K) := by
  have nd := sc_is_vector.nd
  refine F.ok sc_is_vector (fun vs H Q E h => ?_) (fun cdv A outer s H vs Q E hr h => ?_)
  · obtain ⟨i, xs, rfl, _⟩ := h
    rfl
  · obtain ⟨v, d, rfl, hd, q⟩ := h
    refine ⟨_, (pss_one (ps_ret (pe_and (pe_callB (kcall_isi K) (by rfl) T.m_isinstance (by decide +kernel) (pa_cons (pv 0) (pa_cons (pe_bltn (v := .ty "tuple") (u := .type "tuple") (by rfl) T.m_tuple (by decide +kernel) rfl) pa_nil))) (pe_and (pe_cmpR op_le (pe_callB (kcall_len K) (by rfl) T.m_len PySem.boot_len (pa_cons (pv 0) pa_nil)) (pe_gv rfl T.g_MOST_ENTRIES) (nomark _)) (pe_one (pe_callB (kcr_all K) (by rfl) T.m_all (by decide +kernel) (pa_cons (pe_lc (own := [("entry", 1)]) (g := gName 1) (tt := tYes) rfl nd (kpi_tup K (pv 0)) (blkOk_by (by rfl)) (fun _ _ _ _ _ => (pg_name (i := 1) nd rfl (.inl rfl))) (fun _ _ _ _ _ => pts_nil) (fun _ _ _ _ _ => (pe_def D_is_ratio (hr.mono (by omega)) rfl (pa_cons (pv 1) pa_nil)))) pa_nil))))))), ?_⟩
    refine ⟨v, rfl, v, _, .type (tyName d), _, jTup d, rfl, .ty _, dp_ty hd, kit_ty (kit_tup d), jTup d, rfl, ?_⟩
    cases hd with
    | @tup a xs ds ha hx =>
      have l := dpAll_len hx
      refine iteT ⟨.ref a, rfl, a, xs, rfl, .inr ha, _, _, rfl, rfl, _, rfl, ?_⟩
      by_cases h48 : ds.length ≤ 48
      · rw [decide_eq_true (show (xs.length : Int) ≤ 48 by omega)]
        refine iteT ⟨.ref a, rfl, a, rfl, ⟨xs, ha⟩, fun D hD => ?_⟩
        refine lc_all (walk_tup (xs := xs)) (fun i H2 => Same H H2 ∧ H2 D = some (.lst (((ds.take i).map jRatio).map V.bl))) ⟨same_new hD, upd_same⟩ (fun i H2 _ z => sqt_same' ha z.1) (fun i x H2 H3 hi z y => ?_) (fun H2 z => ?_)
        · obtain ⟨sm, eD⟩ := z
          obtain ⟨rfl, hx1⟩ := y
          obtain ⟨di, hdi, idi⟩ := dpAll_getV hx hx1
          exact ⟨rfl, x, rfl, x, di, rfl, dp_same sm _ idi, _, eD, small1000 (by rw [List.length_map, List.length_map, List.length_take]; omega), bools_snoc sm hD eD hdi⟩
        · refine ⟨D, ds.map jRatio, rfl, .of (by rw [← List.take_of_length_le (l := ds) (i := xs.length) (by omega)]; exact z.2), ?_⟩
          rw [all_map]
          have e : jVec (.tuple ds) = ds.all jRatio := by
            show (decide (ds.length ≤ 48) && ds.all jRatio) = _
            rw [decide_eq_true h48]; rfl
          have := q H2 z.1
          rw [e] at this
          exact this
      · rw [decide_eq_false (show ¬ (xs.length : Int) ≤ 48 by omega)]
        have e : jVec (.tuple ds) = false := by
          show (decide (ds.length ≤ 48) && ds.all jRatio) = _
          rw [decide_eq_false h48]; rfl
        have := q H (Same.refl H)
        rw [e] at this
        exact iteF this
    | non => exact iteF (q H (Same.refl H))
    | bl b => exact iteF (q H (Same.refl H))
    | int i => exact iteF (q H (Same.refl H))
    | str x => exact iteF (q H (Same.refl H))
    | lst _ _ => exact iteF (q H (Same.refl H))
end
end K42

set_option Elab.async false
set_option linter.all false
set_option maxRecDepth 100000
set_option exponentiation.threshold 20000
namespace K42
open PySem PySem.Spec PyProof.Rows L2 Ly Mt El
section
variable {P : Program} {w : World} {K : PySem.W.Frag} {mg : Str → Option Value} {base : Heap} {C : Addr}

abbrev s_is_matrix : Stmt := topS 23
theorem sc_is_matrix : FnScope ["thing", "row"] ["thing"] (defScope s_is_matrix) := ⟨rfl, rfl, rfl, by decide +kernel, rfl, by decide +kernel, by decide +kernel⟩
def sp_is_matrix (K : PySem.W.Frag) : Sp := fun vs H Q _ => ∃ v d, vs = [v] ∧ Dp K H v d ∧ ∀ H', Same H H' → Q (.bl (jMat d)) H'
theorem ok_is_matrix {f : Addr} {fd : FuncData} {k : Nat} (F : Fun K "is_matrix" "is_matrix" s_is_matrix f fd) (T : Tx K mg C){ki : Nat} (D_is_vector : Def P w K mg base ki "is_vector" s_is_vector ["thing"] (sp_is_vector K)) (hk : ki ≤ k) : FnOk P w K mg base CX0 (k + 1) f fd ["thing"] (sp_is_matrix K) := by
  have nd := sc_is_matrix.nd
  refine F.ok sc_is_matrix (fun vs H Q E h => ?_) (fun cdv A outer s H vs Q E hr h => ?_)
  · obtain ⟨i, xs, rfl, _⟩ := h
    rfl
  · obtain ⟨v, d, rfl, hd, q⟩ := h
    refine ⟨_, (pss_cons (ps_if (PW.pt (pw_or (pt_not (pt_val (pe_callB (kcall_isi K) (by rfl) T.m_isinstance (by decide +kernel) (pa_cons (pv 0) (pa_cons (pe_bltn (v := .ty "tuple") (u := .type "tuple") (by rfl) T.m_tuple (by decide +kernel) rfl) pa_nil))))) (pw_or1 (pt_cmpR op_gt (pe_callB (kcall_len K) (by rfl) T.m_len PySem.boot_len (pa_cons (pv 0) pa_nil)) (pe_gv rfl T.g_MOST_ENTRIES) (nomark _)))))
        (pss_one (ps_ret pe_bl))
        pss_nil)
      (pss_cons (ps_if (pt_not (pt_val (pe_callB (kcr_all K) (by rfl) T.m_all (by decide +kernel) (pa_cons (pe_lc (own := [("row", 1)]) (g := gName 1) (tt := tYes) rfl nd (kpi_tup K (pv 0)) (blkOk_by (by rfl)) (fun _ _ _ _ _ => (pg_name (i := 1) nd rfl (.inl rfl))) (fun _ _ _ _ _ => pts_nil) (fun _ _ _ _ _ => (pe_def D_is_vector (hr.mono (by omega)) rfl (pa_cons (pv 1) pa_nil)))) pa_nil))))
        (pss_one (ps_ret pe_bl))
        pss_nil)
      (pss_one (ps_ret (pe_callB (kcr_all K) (by rfl) T.m_all (by decide +kernel) (pa_cons (pe_lc (own := [("row", 1)]) (g := gName 1) (tt := tYes) rfl nd (kpi_tup K (pv 0)) (blkOk_by (by rfl)) (fun _ _ _ _ _ => (pg_name (i := 1) nd rfl (.inl rfl))) (fun _ _ _ _ _ => pts_nil) (fun _ _ _ _ _ => (pe_cmpR op_eq (pe_callB (kcall_len K) (by rfl) T.m_len PySem.boot_len (pa_cons (pv 1) pa_nil)) (pe_callB (kcall_len K) (by rfl) T.m_len PySem.boot_len (pa_cons (pe_ix (kix_tup K) (pv 0) pe_int (fun _ _ => rfl)) pa_nil)) (nomark _)))) pa_nil)))))), ?_⟩
    refine ⟨v, rfl, v, _, .type (tyName d), _, jTup d, rfl, .ty _, dp_ty hd, kit_ty (kit_tup d), jTup d, rfl, ?_⟩
    cases hd with
    | @tup a xs ds ha hx =>
      have l := dpAll_len hx
      refine iteF ⟨.ref a, rfl, a, xs, rfl, .inr ha, _, _, rfl, rfl, _, rfl, ?_⟩
      by_cases h48 : ds.length ≤ 48
      · rw [decide_eq_false (show ¬ (xs.length : Int) > 48 by omega)]
        refine iteF ⟨.ref a, rfl, a, rfl, ⟨xs, ha⟩, fun D hD => ?_⟩
        refine lc_all (walk_tup (xs := xs)) (fun i H2 => Same H H2 ∧ H2 D = some (.lst (((ds.take i).map jVec).map V.bl))) ⟨same_new hD, upd_same⟩ (fun i H2 _ z => sqt_same' ha z.1) (fun i x H2 H3 hi z y => ?_) (fun H2 z => ?_)
        · obtain ⟨sm, eD⟩ := z
          obtain ⟨rfl, hx1⟩ := y
          obtain ⟨di, hdi, idi⟩ := dpAll_getV hx hx1
          refine ⟨rfl, x, rfl, x, di, rfl, dp_same sm _ idi, fun H4 sm4 => ⟨_, sm4 _ _ eD, small1000 (by rw [List.length_map, List.length_map, List.length_take]; omega), ?_⟩⟩
          have := bools_snoc (H := H) (sm.trans sm4) hD (sm4 _ _ eD) hdi
          exact this
        · refine ⟨D, ds.map jVec, rfl, .of (by rw [← List.take_of_length_le (l := ds) (i := xs.length) (by omega)]; exact z.2), ?_⟩
          rw [all_map]
          have sm1 := z.1
          cases hv : ds.all jVec with
          | false =>
            have e : jMat (.tuple ds) = false := by
              show (decide (ds.length ≤ 48) && ds.all jVec && _) = _
              rw [hv, Bool.and_false]; rfl
            have := q H2 sm1
            rw [e] at this
            exact ⟨false, rfl, iteT this⟩
          | true =>
            refine ⟨true, rfl, iteF ?_⟩
            have hall := List.all_eq_true.mp hv
            refine ⟨.ref a, rfl, a, rfl, ⟨xs, sqt_same' ha sm1⟩, fun D2 hD2 => ?_⟩
            refine lc_all (walk_tup (xs := xs)) (fun i H3 => Same H2 H3 ∧ H3 D2 = some (.lst (((ds.take i).map (fun r => decide (rowLen r = rowLen (ds.getD 0 .none)))).map V.bl))) ⟨same_new hD2, upd_same⟩ (fun i H3 _ z => sqt_same' ha (sm1.trans z.1)) (fun i x H3 H4 hi z y => ?_) (fun H3 z => ?_)
            · obtain ⟨sm, eD⟩ := z
              obtain ⟨rfl, hx1⟩ := y
              have sm2 := sm1.trans sm
              obtain ⟨di, hdi, idi⟩ := dpAll_getV hx hx1
              obtain ⟨es, rfl⟩ := jVec_tup (hall di (List.mem_of_getElem? hdi))
              have h0 : ds[0]? = some (ds[0]'(by omega)) := List.getElem?_eq_getElem (by omega)
              have hm0 := List.getElem_mem (l := ds) (n := 0) (by omega)
              generalize ds[0]'(by omega) = d0 at h0 hm0
              obtain ⟨es0, rfl⟩ := jVec_tup (hall d0 hm0)
              obtain ⟨x0, hx0, id0⟩ := dpAll_get hx h0
              have eg : ds.getD 0 .none = .tuple es0 := by rw [List.getD_eq_getElem?_getD, h0]; rfl
              have i1 := dp_same sm2 _ idi
              have i0 := dp_same sm2 _ id0
              cases i1 with
              | @tup b ys _ hb hys =>
                cases i0 with
                | @tup b0 ys0 _ hb0 hys0 =>
                  have ly := dpAll_len hys
                  have ly0 := dpAll_len hys0
                  have bs := bools_snoc (j := fun r => decide (rowLen r = rowLen (ds.getD 0 .none))) sm hD2 eD hdi
                  have e : decide (V.int (ys.length : Nat) = V.int (ys0.length : Nat)) = decide (rowLen (.tuple es) = rowLen (ds.getD 0 .none)) := by
                    rw [eg]
                    show _ = decide (es.length = es0.length)
                    by_cases h : es.length = es0.length
                    · rw [decide_eq_true h, decide_eq_true (by rw [ly, ly0, h])]
                    · rw [decide_eq_false h, decide_eq_false (fun z => h (by have := V.int.inj z; omega))]
                  rw [← e] at bs
                  exact ⟨rfl, .ref b, rfl, b, ys, rfl, .inr hb, .ref a, rfl, a, xs, 0, _, rfl, rfl, sqt_same' ha sm2, atI_nat (j := 0) hx0, b0, ys0, rfl, .inr hb0, rfl, _, eD, small1000 (by rw [List.length_map, List.length_map, List.length_take]; omega), bs⟩
            · have e3 := z.2
              rw [List.take_of_length_le (by omega)] at e3
              refine ⟨D2, ds.map (fun r => decide (rowLen r = rowLen (ds.getD 0 .none))), rfl, .of e3, ?_⟩
              rw [all_map]
              have e : jMat (.tuple ds) = ds.all (fun r => decide (rowLen r = rowLen (ds.getD 0 .none))) := by
                show (decide (ds.length ≤ 48) && ds.all jVec && _) = _
                rw [decide_eq_true h48, hv]; rfl
              have := q H3 (sm1.trans z.1)
              rw [e] at this
              exact this
      · rw [decide_eq_true (show (xs.length : Int) > 48 by omega)]
        have e : jMat (.tuple ds) = false := by
          show (decide (ds.length ≤ 48) && ds.all jVec && _) = _
          rw [decide_eq_false h48]; rfl
        have := q H (Same.refl H)
        rw [e] at this
        exact iteT this
    | non => exact iteT (q H (Same.refl H))
    | bl b => exact iteT (q H (Same.refl H))
    | int i => exact iteT (q H (Same.refl H))
    | str x => exact iteT (q H (Same.refl H))
    | lst _ _ => exact iteT (q H (Same.refl H))
end
end K42

set_option Elab.async false
set_option linter.all false
set_option maxRecDepth 100000
set_option exponentiation.threshold 20000
namespace K42
open PySem PySem.Spec PyProof.Rows L2 Ly Mt El
theorem divInt_flip (t b : Int) : Rat.divInt (-t) (-b) = Rat.divInt t b := by
  rw [Rat.neg_divInt_neg]
theorem sub_as (x y : Rat) : Rat.divInt (x.num * (y.den : Int) - y.num * (x.den : Int)) ((x.den : Int) * (y.den : Int)) = x - y := by
  have hx : (x.den : Int) ≠ 0 := by have := den_pos x; omega
  have hy : (y.den : Int) ≠ 0 := by have := den_pos y; omega
  rw [← Rat.divInt_sub_divInt _ _ hx hy, Rat.num_divInt_den, Rat.num_divInt_den]
theorem over_as (x y : Rat) : Rat.divInt (x.num * (y.den : Int)) ((x.den : Int) * y.num) = x / y := by
  rw [← Rat.divInt_mul_divInt, Rat.num_divInt_den, Rat.div_def]
  congr 1
  rw [← Rat.inv_divInt, Rat.num_divInt_den]
theorem num_ne {y : Rat} (h : y ≠ 0) : y.num ≠ 0 := fun e => h (num_zero e)
section
variable {P : Program} {w : World} {K : PySem.W.Frag} {mg : Str → Option Value} {base : Heap} {C : Addr}
abbrev s_made : Stmt := topS 14
theorem sc_made : FnScope ["top", "bottom", "common"] ["top", "bottom"] (defScope s_made) := ⟨rfl, rfl, rfl, by decide +kernel, rfl, by decide +kernel, by decide +kernel⟩
def sp_made : Sp := fun vs H Q _ => ∃ t b, vs = [.int t, .int b] ∧ b ≠ 0 ∧ b.natAbs < 2 ^ 9000 ∧ ∀ p, H p = none → Q (.ref p) (upd H p (.tup [.int (Rat.divInt t b).num, .int ((Rat.divInt t b).den : Int)]))
theorem ok_made {f : Addr} {fd : FuncData} {k : Nat} (F : Fun K "made" "made" s_made f fd) (T : Tx K mg C) : FnOk P w K mg base CX0 (k + 1) f fd ["top", "bottom"] sp_made := by
  have nd := sc_made.nd
  refine F.ok sc_made (fun vs H Q E h => ?_) (fun cdv A outer s H vs Q E hr h => ?_)
  · obtain ⟨i, xs, rfl, _⟩ := h
    rfl
  · obtain ⟨t, b, rfl, hb, hs, q⟩ := h
    refine ⟨_, (C8.pss_cut (ps_if (pt_cmpR op_lt (pv 1) pe_int (nomark _))
        (pss_one (ps_par (i := 0) (j := 1) (by rfl) nd rfl rfl (by decide) rfl rfl (pa_cons (pe_un un_neg (pv 0)) (pa_cons (pe_un un_neg (pv 1)) pa_nil)) (by rfl)))
        pss_nil)
      (pss_cons (ps_set (i := 2) nd rfl (.inl rfl) (pe_callBfun cr_gcd (by rfl) T.g_gcd (pa_cons (pv 0) (pa_cons (pv 1) pa_nil))))
      (pss_one (ps_ret (pe_tup (pa_cons (pe_op op_fdivW (pv 0) (pv 2)) (pa_cons (pe_op op_fdivW (pv 1) (pv 2)) pa_nil))))))), ?_⟩
    refine ⟨fun σ' H' => H' = H ∧ ∃ t' b', σ' = [some (.int t'), some (.int b'), none] ∧ 0 < b' ∧ b'.natAbs < 2 ^ 9000 ∧ Rat.divInt t' b' = Rat.divInt t b, ?_, ?_⟩
    · refine ⟨.int b, rfl, _, _, rfl, rfl, _, rfl, ?_⟩
      by_cases h0 : b < 0
      · rw [decide_eq_true h0]
        exact iteT ⟨.int t, rfl, t, rfl, .int b, rfl, b, rfl, _, _, rfl, rfl, -t, -b, rfl, by omega, by rw [Int.natAbs_neg]; exact hs, divInt_flip t b⟩
      · rw [decide_eq_false h0]
        exact iteF ⟨rfl, t, b, rfl, by omega, hs, rfl⟩
    · rintro σ' H' ⟨rfl, t', b', rfl, hb', hs', e⟩
      refine ⟨.int t', rfl, .int b', rfl, t', b', rfl, ?_⟩
      have c := wide_div (i := t') (gcd_pos (t := t') hb') (Nat.lt_of_le_of_lt (gcd_le hb') hs') (by decide) (Nat.le_refl _)
      have c' := wide_div (i := b') (gcd_pos (t := t') hb') (Nat.lt_of_le_of_lt (gcd_le hb') hs') (by decide) (Nat.le_refl _)
      refine ⟨.int t', rfl, .int _, rfl, _, _, rfl, rfl, c, .int b', rfl, .int _, rfl, _, _, rfl, rfl, c', by show 2 ≤ sizeLine; decide, fun p hp => ?_⟩
      have z := q p hp
      rw [← e, ← made_num hb', ← made_den hb'] at z
      exact z

/-- one - other -/
abbrev s_minus : Stmt := topS 16
theorem sc_minus : FnScope ["one", "other"] ["one", "other"] (defScope s_minus) := ⟨rfl, rfl, rfl, by decide +kernel, rfl, by decide +kernel, by decide +kernel⟩
def sp_minus (K : PySem.W.Frag) : Sp := fun vs H Q _ => ∃ v u x y, vs = [v, u] ∧ Im K H v (rD x) ∧ Im K H u (rD y) ∧ Bd 2900 2900 x ∧ Bd 5800 5800 y ∧ ∀ p H', Same H H' → H p = none → Im K H' (.ref p) (rD (x - y)) → Q (.ref p) H'
theorem ok_minus {f : Addr} {fd : FuncData} {k : Nat} (F : Fun K "minus" "minus" s_minus f fd) (T : Tx K mg C){ki : Nat} (D_made : Def P w K mg base ki "made" s_made ["top", "bottom"] sp_made) (hk : ki ≤ k) : FnOk P w K mg base CX0 (k + 1) f fd ["one", "other"] (sp_minus K) := by
  have nd := sc_minus.nd
  refine F.ok sc_minus (fun vs H Q E h => ?_) (fun cdv A outer s H vs Q E hr h => ?_)
  · obtain ⟨i, xs, _, _, rfl, _⟩ := h
    rfl
  · obtain ⟨v, u, x, y, rfl, hv, hu, bx, bw, q⟩ := h
    obtain ⟨a, rfl, ha⟩ := rat_inv hv
    obtain ⟨b, rfl, hb⟩ := rat_inv hu
    refine ⟨_, (pss_one (ps_ret (pe_def D_made (hr.mono (by omega)) rfl (pa_cons (pe_op op_sub (pe_op op_mulW (pe_ix (kix_tup K) (pv 0) pe_int (fun _ _ => rfl)) (pe_ix (kix_tup K) (pv 1) pe_int (fun _ _ => rfl))) (pe_op op_mulW (pe_ix (kix_tup K) (pv 1) pe_int (fun _ _ => rfl)) (pe_ix (kix_tup K) (pv 0) pe_int (fun _ _ => rfl)))) (pa_cons (pe_op op_mulW (pe_ix (kix_tup K) (pv 0) pe_int (fun _ _ => rfl)) (pe_ix (kix_tup K) (pv 1) pe_int (fun _ _ => rfl))) pa_nil))))), ?_⟩
    refine ⟨.ref a, rfl, a, _, 0, _, rfl, rfl, ha.sq, atI_nat (j := 0) rfl, .ref b, rfl, b, _, 1, _, rfl, rfl, hb.sq, atI_nat (j := 1) rfl, _, _, rfl, rfl, wide_mul bx.1 bw.2 (by decide) (by decide) (by decide), ?_⟩
    refine ⟨.ref b, rfl, b, _, 0, _, rfl, rfl, hb.sq, atI_nat (j := 0) rfl, .ref a, rfl, a, _, 1, _, rfl, rfl, ha.sq, atI_nat (j := 1) rfl, _, _, rfl, rfl, wide_mul bw.1 bx.2 (by decide) (by decide) (by decide), ?_⟩
    refine ⟨_, _, rfl, rfl, ?_⟩
    refine ⟨.ref a, rfl, a, _, 1, _, rfl, rfl, ha.sq, atI_nat (j := 1) rfl, .ref b, rfl, b, _, 1, _, rfl, rfl, hb.sq, atI_nat (j := 1) rfl, _, _, rfl, rfl, wide_mul bx.2 bw.2 (by decide) (by decide) (by decide), ?_⟩
    refine ⟨_, _, rfl, Int.ne_of_gt (Int.mul_pos (den_pos x) (den_pos y)), lt_up (lt_mul bx.2 bw.2) (by decide), fun p hp => ?_⟩
    rw [sub_as]
    exact q p _ (same_new hp) hp (rat_mk (.inl upd_same))

/-- one * other -/
abbrev s_times : Stmt := topS 17
theorem sc_times : FnScope ["one", "other"] ["one", "other"] (defScope s_times) := ⟨rfl, rfl, rfl, by decide +kernel, rfl, by decide +kernel, by decide +kernel⟩
def sp_times (K : PySem.W.Frag) : Sp := fun vs H Q _ => ∃ v u x y, vs = [v, u] ∧ Im K H v (rD x) ∧ Im K H u (rD y) ∧ Bd 4400 4400 x ∧ Bd 4400 4400 y ∧ ∀ p H', Same H H' → H p = none → Im K H' (.ref p) (rD (x * y)) → Q (.ref p) H'
theorem ok_times {f : Addr} {fd : FuncData} {k : Nat} (F : Fun K "times" "times" s_times f fd) (T : Tx K mg C){ki : Nat} (D_made : Def P w K mg base ki "made" s_made ["top", "bottom"] sp_made) (hk : ki ≤ k) : FnOk P w K mg base CX0 (k + 1) f fd ["one", "other"] (sp_times K) := by
  have nd := sc_times.nd
  refine F.ok sc_times (fun vs H Q E h => ?_) (fun cdv A outer s H vs Q E hr h => ?_)
  · obtain ⟨i, xs, _, _, rfl, _⟩ := h
    rfl
  · obtain ⟨v, u, x, y, rfl, hv, hu, bx, bw, q⟩ := h
    obtain ⟨a, rfl, ha⟩ := rat_inv hv
    obtain ⟨b, rfl, hb⟩ := rat_inv hu
    refine ⟨_, (pss_one (ps_ret (pe_def D_made (hr.mono (by omega)) rfl (pa_cons (pe_op op_mulW (pe_ix (kix_tup K) (pv 0) pe_int (fun _ _ => rfl)) (pe_ix (kix_tup K) (pv 1) pe_int (fun _ _ => rfl))) (pa_cons (pe_op op_mulW (pe_ix (kix_tup K) (pv 0) pe_int (fun _ _ => rfl)) (pe_ix (kix_tup K) (pv 1) pe_int (fun _ _ => rfl))) pa_nil))))), ?_⟩
    refine ⟨.ref a, rfl, a, _, 0, _, rfl, rfl, ha.sq, atI_nat (j := 0) rfl, .ref b, rfl, b, _, 0, _, rfl, rfl, hb.sq, atI_nat (j := 0) rfl, _, _, rfl, rfl, wide_mul bx.1 bw.1 (by decide) (by decide) (by decide), ?_⟩
    refine ⟨.ref a, rfl, a, _, 1, _, rfl, rfl, ha.sq, atI_nat (j := 1) rfl, .ref b, rfl, b, _, 1, _, rfl, rfl, hb.sq, atI_nat (j := 1) rfl, _, _, rfl, rfl, wide_mul bx.2 bw.2 (by decide) (by decide) (by decide), ?_⟩
    refine ⟨_, _, rfl, Int.ne_of_gt (Int.mul_pos (den_pos x) (den_pos y)), lt_up (lt_mul bx.2 bw.2) (by decide), fun p hp => ?_⟩
    rw [mul_as]
    exact q p _ (same_new hp) hp (rat_mk (.inl upd_same))

/-- one / other -/
abbrev s_over : Stmt := topS 18
theorem sc_over : FnScope ["one", "other"] ["one", "other"] (defScope s_over) := ⟨rfl, rfl, rfl, by decide +kernel, rfl, by decide +kernel, by decide +kernel⟩
def sp_over (K : PySem.W.Frag) : Sp := fun vs H Q _ => ∃ v u x y, vs = [v, u] ∧ Im K H v (rD x) ∧ Im K H u (rD y) ∧ Bd 4400 4400 x ∧ Bd 4400 4400 y ∧ y ≠ 0 ∧ ∀ p H', Same H H' → H p = none → Im K H' (.ref p) (rD (x / y)) → Q (.ref p) H'
theorem ok_over {f : Addr} {fd : FuncData} {k : Nat} (F : Fun K "over" "over" s_over f fd) (T : Tx K mg C){ki : Nat} (D_made : Def P w K mg base ki "made" s_made ["top", "bottom"] sp_made) (hk : ki ≤ k) : FnOk P w K mg base CX0 (k + 1) f fd ["one", "other"] (sp_over K) := by
  have nd := sc_over.nd
  refine F.ok sc_over (fun vs H Q E h => ?_) (fun cdv A outer s H vs Q E hr h => ?_)
  · obtain ⟨i, xs, _, _, rfl, _⟩ := h
    rfl
  · obtain ⟨v, u, x, y, rfl, hv, hu, bx, bw, hy, q⟩ := h
    obtain ⟨a, rfl, ha⟩ := rat_inv hv
    obtain ⟨b, rfl, hb⟩ := rat_inv hu
    refine ⟨_, (pss_one (ps_ret (pe_def D_made (hr.mono (by omega)) rfl (pa_cons (pe_op op_mulW (pe_ix (kix_tup K) (pv 0) pe_int (fun _ _ => rfl)) (pe_ix (kix_tup K) (pv 1) pe_int (fun _ _ => rfl))) (pa_cons (pe_op op_mulW (pe_ix (kix_tup K) (pv 0) pe_int (fun _ _ => rfl)) (pe_ix (kix_tup K) (pv 1) pe_int (fun _ _ => rfl))) pa_nil))))), ?_⟩
    refine ⟨.ref a, rfl, a, _, 0, _, rfl, rfl, ha.sq, atI_nat (j := 0) rfl, .ref b, rfl, b, _, 1, _, rfl, rfl, hb.sq, atI_nat (j := 1) rfl, _, _, rfl, rfl, wide_mul bx.1 bw.2 (by decide) (by decide) (by decide), ?_⟩
    refine ⟨.ref a, rfl, a, _, 1, _, rfl, rfl, ha.sq, atI_nat (j := 1) rfl, .ref b, rfl, b, _, 0, _, rfl, rfl, hb.sq, atI_nat (j := 0) rfl, _, _, rfl, rfl, wide_mul bx.2 bw.1 (by decide) (by decide) (by decide), ?_⟩
    refine ⟨_, _, rfl, Int.mul_ne_zero (by have := den_pos x; omega) (num_ne hy), lt_up (lt_mul bx.2 bw.1) (by decide), fun p hp => ?_⟩
    rw [over_as]
    exact q p _ (same_new hp) hp (rat_mk (.inl upd_same))

abbrev s_opposite : Stmt := topS 19
theorem sc_opposite : FnScope ["one"] ["one"] (defScope s_opposite) := ⟨rfl, rfl, rfl, by decide +kernel, rfl, by decide +kernel, by decide +kernel⟩
def sp_opposite (K : PySem.W.Frag) : Sp := fun vs H Q _ => ∃ v x, vs = [v] ∧ Im K H v (rD x) ∧ ∀ p H', Same H H' → H p = none → Im K H' (.ref p) (rD (-x)) → Q (.ref p) H'
theorem ok_opposite {f : Addr} {fd : FuncData} {k : Nat} (F : Fun K "opposite" "opposite" s_opposite f fd) (T : Tx K mg C) : FnOk P w K mg base CX0 (k + 1) f fd ["one"] (sp_opposite K) := by
  have nd := sc_opposite.nd
  refine F.ok sc_opposite (fun vs H Q E h => ?_) (fun cdv A outer s H vs Q E hr h => ?_)
  · obtain ⟨i, xs, rfl, _⟩ := h
    rfl
  · obtain ⟨v, x, rfl, hv, q⟩ := h
    obtain ⟨a, rfl, ha⟩ := rat_inv hv
    refine ⟨_, (pss_one (ps_ret (pe_tup (pa_cons (pe_un un_neg (pe_ix (kix_tup K) (pv 0) pe_int (fun _ _ => rfl))) (pa_cons (pe_ix (kix_tup K) (pv 0) pe_int (fun _ _ => rfl)) pa_nil))))), ?_⟩
    refine ⟨.ref a, rfl, a, _, 0, _, rfl, rfl, ha.sq, atI_nat (j := 0) rfl, _, rfl, .ref a, rfl, a, _, 1, _, rfl, rfl, ha.sq, atI_nat (j := 1) rfl, by show 2 ≤ sizeLine; decide, fun p hp => q p _ (same_new hp) hp (rat_mk ?_)⟩
    rw [Rat.neg_num, Rat.neg_den]
    exact .inl upd_same

abbrev s_plus : Stmt := topS 15
theorem sc_plus : FnScope ["one", "other"] ["one", "other"] (defScope s_plus) := ⟨rfl, rfl, rfl, by decide +kernel, rfl, by decide +kernel, by decide +kernel⟩
def sp_plus (K : PySem.W.Frag) : Sp := fun vs H Q _ => ∃ v u x y, vs = [v, u] ∧ Im K H v (rD x) ∧ Im K H u (rD y) ∧ Bd 2900 2900 x ∧ Bd 5800 5800 y ∧ ∀ p H', Same H H' → H p = none → Im K H' (.ref p) (rD (x + y)) → Q (.ref p) H'
theorem ok_plus {f : Addr} {fd : FuncData} {k : Nat} (F : Fun K "plus" "plus" s_plus f fd) (T : Tx K mg C){ki : Nat} (D_made : Def P w K mg base ki "made" s_made ["top", "bottom"] sp_made) (hk : ki ≤ k) : FnOk P w K mg base CX0 (k + 1) f fd ["one", "other"] (sp_plus K) := by
  have nd := sc_plus.nd
  refine F.ok sc_plus (fun vs H Q E h => ?_) (fun cdv A outer s H vs Q E hr h => ?_)
  · obtain ⟨i, xs, _, _, rfl, _⟩ := h
    rfl
  · obtain ⟨v, u, x, y, rfl, hv, hu, bx, bw, q⟩ := h
    obtain ⟨a, rfl, ha⟩ := rat_inv hv
    obtain ⟨b, rfl, hb⟩ := rat_inv hu
    refine ⟨_, (pss_one (ps_ret (pe_def D_made (hr.mono (by omega)) rfl (pa_cons (pe_op op_add (pe_op op_mulW (pe_ix (kix_tup K) (pv 0) pe_int (fun _ _ => rfl)) (pe_ix (kix_tup K) (pv 1) pe_int (fun _ _ => rfl))) (pe_op op_mulW (pe_ix (kix_tup K) (pv 1) pe_int (fun _ _ => rfl)) (pe_ix (kix_tup K) (pv 0) pe_int (fun _ _ => rfl)))) (pa_cons (pe_op op_mulW (pe_ix (kix_tup K) (pv 0) pe_int (fun _ _ => rfl)) (pe_ix (kix_tup K) (pv 1) pe_int (fun _ _ => rfl))) pa_nil))))), ?_⟩
    refine ⟨.ref a, rfl, a, _, 0, _, rfl, rfl, ha.sq, atI_nat (j := 0) rfl, .ref b, rfl, b, _, 1, _, rfl, rfl, hb.sq, atI_nat (j := 1) rfl, _, _, rfl, rfl, wide_mul bx.1 bw.2 (by decide) (by decide) (by decide), ?_⟩
    refine ⟨.ref b, rfl, b, _, 0, _, rfl, rfl, hb.sq, atI_nat (j := 0) rfl, .ref a, rfl, a, _, 1, _, rfl, rfl, ha.sq, atI_nat (j := 1) rfl, _, _, rfl, rfl, wide_mul bw.1 bx.2 (by decide) (by decide) (by decide), ?_⟩
    refine ⟨_, _, rfl, rfl, ?_⟩
    refine ⟨.ref a, rfl, a, _, 1, _, rfl, rfl, ha.sq, atI_nat (j := 1) rfl, .ref b, rfl, b, _, 1, _, rfl, rfl, hb.sq, atI_nat (j := 1) rfl, _, _, rfl, rfl, wide_mul bx.2 bw.2 (by decide) (by decide) (by decide), ?_⟩
    refine ⟨_, _, rfl, Int.ne_of_gt (Int.mul_pos (den_pos x) (den_pos y)), lt_up (lt_mul bx.2 bw.2) (by decide), fun p hp => ?_⟩
    rw [add_as]
    exact q p _ (same_new hp) hp (rat_mk (.inl upd_same))
end
end K42

set_option Elab.async false
set_option linter.all false
set_option maxRecDepth 100000
set_option exponentiation.threshold 20000
namespace K42
open PySem PySem.Spec PyProof.Rows L2 Ly Mt El
/-- a list of ratios -/
def LRow (K : PySem.W.Frag) (H : Hp) (p : Addr) (r : List Rat) : Prop := ∃ ws, H p = some (.lst ws) ∧ ImAll K H ws (r.map rD)
theorem LRow.same {K : PySem.W.Frag} {H H' : Hp} {p : Addr} {r : List Rat} (h : LRow K H p r) (s : Same H H') : LRow K H' p r := by
  obtain ⟨ws, h1, h2⟩ := h
  exact ⟨ws, s _ _ h1, ImAll.mono (tk_same s) _ h2⟩
/-- pairs of places and rows at the values vs; none of the rows lies at D -/
def HAcc (K : PySem.W.Frag) (H : Hp) (D : Addr) (vs : List V) (hl : HL) : Prop := vs.length = hl.length ∧ ∀ (i p : Nat) (r : List Rat), hl[i]? = some (p, r) → ∃ (a b : Addr), vs[i]? = some (V.ref a) ∧ H a = some (.tup [.int (p : Nat), .ref b]) ∧ LRow K H b r ∧ b ≠ D
/-- all but D stays -/
def Bar (D : Addr) (H H' : Hp) : Prop := ∀ b o, b ≠ D → H b = some o → H' b = some o
theorem bar_same {D : Addr} {H H' : Hp} (s : Same H H') : Bar D H H' := fun b o _ h => s b o h
theorem Bar.trans {D : Addr} {H H1 H2 : Hp} (a : Bar D H H1) (b : Bar D H1 H2) : Bar D H H2 := fun x o h1 h => b x o h1 (a x o h1 h)
theorem bar_upd {D : Addr} {H : Hp} {o : HO} : Bar D H (upd H D o) := fun b x h1 h => by rw [upd_ne h1]; exact h
theorem Bar.tk {D : Addr} {H H' : Hp} {xs : List V} (s : Bar D H H') (h : H D = some (.lst xs)) : TK H H' := fun b ys e => by
  refine s b _ (fun z => ?_) e
  subst z; rw [h] at e; cases e
theorem LRow.bar {K : PySem.W.Frag} {D : Addr} {H H' : Hp} {p : Addr} {r : List Rat} (h : LRow K H p r) (s : Bar D H H') (t : TK H H') (n : p ≠ D) : LRow K H' p r := by
  obtain ⟨ws, h1, h2⟩ := h
  exact ⟨ws, s _ _ n h1, ImAll.mono t _ h2⟩
theorem HAcc.bar {K : PySem.W.Frag} {D : Addr} {H H' : Hp} {vs : List V} {hl : HL} {xs : List V} (h : HAcc K H D vs hl) (s : Bar D H H') (hD : H D = some (.lst xs)) : HAcc K H' D vs hl := by
  refine ⟨h.1, fun i p r e => ?_⟩
  obtain ⟨a, b, k1, k2, k3, k4⟩ := h.2 i p r e
  refine ⟨a, b, k1, s _ _ (fun z => ?_) k2, k3.bar s (s.tk hD) k4, k4⟩
  subst z; rw [hD] at k2; cases k2
theorem HAcc.snoc {K : PySem.W.Frag} {D : Addr} {H : Hp} {vs : List V} {hl : HL} {a b : Addr} {p : Nat} {r : List Rat} (h : HAcc K H D vs hl) (k2 : H a = some (.tup [.int (p : Nat), .ref b])) (k3 : LRow K H b r) (k4 : b ≠ D) : HAcc K H D (vs ++ [.ref a]) (hl ++ [(p, r)]) := by
  refine ⟨by rw [List.length_append, List.length_append, h.1]; rfl, fun i p' r' e => ?_⟩
  by_cases hi : i < hl.length
  · rw [List.getElem?_append_left hi] at e
    obtain ⟨a', b', z⟩ := h.2 i p' r' e
    rw [List.getElem?_append_left (by rw [h.1]; exact hi)]
    exact ⟨a', b', z⟩
  · have hi2 := (List.getElem?_eq_some_iff.mp e).1
    rw [List.length_append] at hi2
    have hi3 : i = hl.length := by simp at hi2; omega
    subst hi3
    rw [List.getElem?_append_right (Nat.le_refl _), Nat.sub_self] at e
    simp at e
    obtain ⟨rfl, rfl⟩ := e
    refine ⟨a, b, ?_, k2, k3, k4⟩
    rw [← h.1, List.getElem?_append_right (Nat.le_refl _), Nat.sub_self]; rfl
/-- the list of pairs that a solver holds -/
def HeldAt (K : PySem.W.Frag) (H : Hp) (h : Addr) (hl : HL) : Prop := ∃ hs : List V, H h = some (.lst hs) ∧ HAcc K H h hs hl
theorem HAcc.same {K : PySem.W.Frag} {D : Addr} {H H' : Hp} {vs : List V} {hl : HL} (h : HAcc K H D vs hl) (s : Same H H') : HAcc K H' D vs hl := by
  refine ⟨h.1, fun i p r e => ?_⟩
  obtain ⟨a, b, k1, k2, k3, k4⟩ := h.2 i p r e
  exact ⟨a, b, k1, s _ _ k2, k3.same s, k4⟩
theorem HeldAt.same {K : PySem.W.Frag} {H H' : Hp} {p : Addr} {hl : HL} (h : HeldAt K H p hl) (s : Same H H') : HeldAt K H' p hl := by
  obtain ⟨hs, h1, h2⟩ := h
  exact ⟨hs, s _ _ h1, h2.same s⟩
theorem first_eq {e : List Rat} {n i : Nat} (h1 : i < n) (h2 : ∀ q, q < i → fn e q = 0) (h3 : fn e i ≠ 0) : first e n = some i := by
  unfold first
  rw [List.find?_range_eq_some]
  refine ⟨by simpa using h3, List.mem_range.mpr h1, fun j hj => ?_⟩
  simpa using h2 j hj
theorem first_eq_none {e : List Rat} {n : Nat} (h : ∀ q, q < n → fn e q = 0) : first e n = none := by
  unfold first
  rw [List.find?_eq_none]
  intro x hx
  simpa using h x (List.mem_range.mp hx)
theorem unitL_get {i n j : Nat} (h : j < n) : (unitL i n)[j]? = some (if j = i then 1 else 0) := by
  unfold unitL; rw [List.getElem?_map, List.getElem?_range h]; rfl
def optV : Option Nat → V
  | none => .non
  | some p => .int (p : Nat)
section
variable {P : Program} {w : World} {K : PySem.W.Frag} {mg : Str → Option Value} {base : Heap} {C : Addr}

abbrev s_unit : Stmt := topS 26
theorem sc_unit : FnScope ["index", "size", "place"] ["index", "size"] (defScope s_unit) := ⟨rfl, rfl, rfl, by decide +kernel, rfl, by decide +kernel, by decide +kernel⟩
def sp_unit (K : PySem.W.Frag) : Sp := fun vs H Q _ => ∃ (i n : Nat), vs = [.int i, .int n] ∧ n ≤ 48 ∧ ∀ p H', Same H H' → H p = none → LRow K H' p (unitL i n) → Q (.ref p) H'
theorem ok_unit {f : Addr} {fd : FuncData} {k : Nat} (F : Fun K "unit" "unit" s_unit f fd) (T : Tx K mg C) : FnOk P w K mg base CX0 (k + 1) f fd ["index", "size"] (sp_unit K) := by
  have nd := sc_unit.nd
  refine F.ok sc_unit (fun vs H Q E h => ?_) (fun cdv A outer s H vs Q E hr h => ?_)
  · obtain ⟨_, _, rfl, _⟩ := h
    rfl
  · obtain ⟨i, n, rfl, hn, q⟩ := h
    obtain ⟨z, gz, hz⟩ := T.zero
    have g_ZERO : ∃ u, mg "ZERO" = some u ∧ L2.RelV (.ref z) u := ⟨_, gz, rfl⟩
    obtain ⟨o, go, ho⟩ := T.one
    have g_ONE : ∃ u, mg "ONE" = some u ∧ L2.RelV (.ref o) u := ⟨_, go, rfl⟩
    refine ⟨_, (pss_one (ps_ret (pe_lc (own := [("place", 2)]) (g := gName 2) (tt := tYes) rfl nd (pi_range1 rfl T.m_range (pa_cons (pv 1) pa_nil)) (blkOk_by (by rfl)) (fun _ _ _ _ _ => (pg_name (i := 2) nd rfl (.inl rfl))) (fun _ _ _ _ _ => pts_nil) (fun _ _ _ _ _ => (pe_ifExp (pt_cmpR op_eq (pv 2) (pv 0) (nomark _)) (pe_gv rfl g_ONE) (pe_gv rfl g_ZERO)))))), ?_⟩
    refine ⟨.int n, rfl, n, rfl, by omega, by omega, fun D hD => ?_⟩
    refine lc_all (walk_range (lo := 0) (n := n)) (fun j H2 => Same H H2 ∧ ∃ acc, H2 D = some (.lst acc) ∧ ImAll K H2 acc (((unitL i n).take j).map rD)) ⟨same_new hD, [], upd_same, .nil⟩ (fun _ _ _ _ => trivial) (fun j x H2 H3 hj y1 y2 => ?_) (fun H2 y => ?_)
    · obtain ⟨sm, acc, eD, ia⟩ := y1
      obtain ⟨rfl, rfl⟩ := y2
      have lacc : acc.length = j := by rw [all_len ia, List.length_take, unitL_length]; omega
      have fin : ∀ v : V, Im K H3 v (rD (if j = i then 1 else 0)) → ∃ acc, H3 D = some (.lst acc) ∧ acc.length < sizeLine ∧ Same H (upd H3 D (.lst (acc ++ [v]))) ∧ ∃ acc', (upd H3 D (.lst (acc ++ [v]))) D = some (.lst acc') ∧ ImAll K (upd H3 D (.lst (acc ++ [v]))) acc' (((unitL i n).take (j + 1)).map rD) := by
        intro v iv
        refine ⟨acc, eD, small1000 (by omega), fun c oo ec => ?_, acc ++ [v], upd_same, ?_⟩
        · rw [upd_ne (ne_of_none ec hD)]
          exact sm _ _ ec
        · exact all_snoc (ImAll.mono (tk_lst eD) _ ia) (unitL_get hj) (Im.mono (tk_lst eD) _ iv)
      refine ⟨rfl, _, rfl, .int i, rfl, rfl, ?_⟩
      by_cases h : j = i
      · rw [decide_eq_true (show V.int ((0 : Int) + (j : Nat)) = V.int i by rw [h]; congr 1; omega)]
        rw [if_pos h] at fin
        exact ⟨true, rfl, iteT (fin _ (rat_mk (q := 1) (ho _)))⟩
      · rw [decide_eq_false (show ¬ V.int ((0 : Int) + (j : Nat)) = V.int i from fun e => h (by have := V.int.inj e; omega))]
        rw [if_neg h] at fin
        exact ⟨false, rfl, iteF (fin _ (rat_mk (q := 0) (hz _)))⟩
    · obtain ⟨sm, acc, eD, ia⟩ := y
      rw [List.take_of_length_le (by rw [unitL_length]; omega)] at ia
      exact q D _ sm hD ⟨acc, eD, ia⟩

abbrev s_first_place : Stmt := topS 27
theorem sc_first_place : FnScope ["entries", "size", "place"] ["entries", "size"] (defScope s_first_place) := ⟨rfl, rfl, rfl, by decide +kernel, rfl, by decide +kernel, by decide +kernel⟩
def sp_first_place (K : PySem.W.Frag) : Sp := fun vs H Q _ => ∃ (l : Addr) (r : List Rat) (n : Nat), vs = [.ref l, .int n] ∧ LRow K H l r ∧ n ≤ r.length ∧ n ≤ 48 ∧ Q (optV (first r n)) H
theorem ok_first_place {f : Addr} {fd : FuncData} {k : Nat} (F : Fun K "first_place" "first_place" s_first_place f fd) (T : Tx K mg C) : FnOk P w K mg base CX0 (k + 1) f fd ["entries", "size"] (sp_first_place K) := by
  have nd := sc_first_place.nd
  refine F.ok sc_first_place (fun vs H Q E h => ?_) (fun cdv A outer s H vs Q E hr h => ?_)
  · obtain ⟨_, _, _, rfl, _⟩ := h
    rfl
  · obtain ⟨l, r, n, rfl, ⟨ws, eL, iw⟩, hn, h48, q⟩ := h
    refine ⟨_, (pss_cons (ps_for PassesOwn.never rfl (pi_range1 rfl T.m_range (pa_cons (pv 1) pa_nil)) (pg_name (i := 2) nd rfl (.inl rfl))
        (pss_one (ps_if (pt_cmpR op_ne (pe_ix (kix_tup K) (pe_ix (kix_list K) (pv 0) (pv 2) (fun _ _ => rfl)) pe_int (fun _ _ => rfl)) pe_int (nomark _))
          (pss_one (ps_ret (pv 2)))
          pss_nil)))
      (pss_one (ps_ret pe_non))), ?_⟩
    refine ⟨.int n, rfl, n, rfl, by omega, by omega, ?_⟩
    refine for_it (walk_range (lo := 0) (n := n)) (fun i σ H2 => H2 = H ∧ ∃ y2, σ = [some (.ref l), some (.int n), y2] ∧ ∀ q, q < i → fn r q = 0) ⟨rfl, none, rfl, fun q h => by omega⟩ (fun _ _ _ _ _ => trivial) ?_ ?_
    · rintro i x σ H2 H3 hi ⟨rfl, y2, rfl, z⟩ ⟨rfl, rfl⟩
      obtain ⟨u, hu, iu⟩ := all_at iw (get_fn (show i < r.length by omega))
      obtain ⟨a, rfl, ha⟩ := rat_inv iu
      have k0 : ((0 : Int) + (i : Nat)) = ((i : Nat) : Int) := by omega
      refine ⟨.ref l, rfl, .int _, rfl, l, ws, _, _, rfl, rfl, .of eL, by rw [k0]; exact atI_nat hu, a, _, 0, _, rfl, rfl, ha.sq, atI_nat (j := 0) rfl, rfl, _, rfl, ?_⟩
      by_cases h : (fn r i).num = 0
      · rw [decide_eq_true (show V.int (fn r i).num = V.int 0 by rw [h])]
        refine iteF ⟨rfl, _, rfl, fun p hp => ?_⟩
        by_cases e : p = i
        · rw [e]; exact num_zero h
        · exact z p (by omega)
      · rw [decide_eq_false (show ¬ V.int (fn r i).num = V.int 0 from fun e => h (V.int.inj e))]
        rw [first_eq hi z (fun e => h (by rw [e]; rfl))] at q
        refine iteT ⟨.int _, rfl, ?_⟩
        rw [k0]
        exact q
    · rintro σ H2 ⟨rfl, y2, rfl, z⟩
      rw [first_eq_none z] at q
      exact q

abbrev s_less_row : Stmt := topS 28
theorem sc_less_row : FnScope ["entries", "factor", "row", "one", "two"] ["entries", "factor", "row"] (defScope s_less_row) := ⟨rfl, rfl, rfl, by decide +kernel, rfl, by decide +kernel, by decide +kernel⟩
def sp_less_row (K : PySem.W.Frag) : Sp := fun vs H Q _ => ∃ l v l2 e g r, vs = [.ref l, v, .ref l2] ∧ LRow K H l e ∧ Im K H v (rD g) ∧ LRow K H l2 r ∧ e.length = r.length ∧ r.length ≤ 96 ∧ (∀ q, Bd 2900 2900 (fn e q)) ∧ Bd 2900 2900 g ∧ (∀ q, Bd 2900 2900 (fn r q)) ∧
  ∀ p H', Same H H' → (p = l ∨ H p = none) → LRow K H' p (sub e g r) → Q (.ref p) H'
theorem ok_less_row {f : Addr} {fd : FuncData} {k : Nat} (F : Fun K "less_row" "less_row" s_less_row f fd) (T : Tx K mg C){ki : Nat} (D_minus : Def P w K mg base ki "minus" s_minus ["one", "other"] (sp_minus K)) (D_times : Def P w K mg base ki "times" s_times ["one", "other"] (sp_times K)) (hk : ki ≤ k) : FnOk P w K mg base CX0 (k + 1) f fd ["entries", "factor", "row"] (sp_less_row K) := by
  have nd := sc_less_row.nd
  refine F.ok sc_less_row (fun vs H Q E h => ?_) (fun cdv A outer s H vs Q E hr h => ?_)
  · obtain ⟨_, _, _, _, _, _, rfl, _⟩ := h
    rfl
  · obtain ⟨l, v, l2, e, g, r, rfl, Le, ig, Lr, hl, h96, be, bg, br, q⟩ := h
    obtain ⟨af, rfl, haf⟩ := rat_inv ig
    refine ⟨_, (pss_cons (ps_if (pt_cmpR op_eq (pe_ix (kix_tup K) (pv 1) pe_int (fun _ _ => rfl)) pe_int (nomark _))
        (pss_one (ps_ret (pv 0)))
        pss_nil)
      (pss_one (ps_ret (pe_lc (own := [("one", 3), ("two", 4)]) (g := _) (tt := tYes) rfl nd (kpi_zip K (by rfl) T.m_zip (pa_cons (pv 0) (pa_cons (pv 2) pa_nil))) (blkOk_by (by rfl)) (fun _ _ _ _ _ => (kpg_tup K (n := 2) rfl (pgs_cons (pg_name (i := 3) nd rfl (.inl rfl)) (pgs_cons (pg_name (i := 4) nd rfl (.inl rfl)) pgs_nil)))) (fun _ _ _ _ _ => pts_nil) (fun _ _ _ _ _ => (pe_ifExp (pt_cmpR op_eq (pe_ix (kix_tup K) (pv 4) pe_int (fun _ _ => rfl)) pe_int (nomark _)) (pv 3) (pe_def D_minus (hr.mono (by omega)) rfl (pa_cons (pv 3) (pa_cons (pe_def D_times (hr.mono (by omega)) rfl (pa_cons (pv 1) (pa_cons (pv 4) pa_nil))) pa_nil))))))))), ?_⟩
    refine ⟨.ref af, rfl, af, _, 0, _, rfl, rfl, haf.sq, atI_nat (j := 0) rfl, rfl, _, rfl, ?_⟩
    by_cases g0 : g.num = 0
    · rw [decide_eq_true (show V.int g.num = V.int 0 by rw [g0])]
      refine iteT ⟨.ref l, rfl, q l H (Same.refl H) (.inl rfl) ?_⟩
      rw [num_zero g0, sub_zero hl]
      exact Le
    rw [decide_eq_false (show ¬ V.int g.num = V.int 0 from fun z => g0 (V.int.inj z))]
    obtain ⟨ws, eL, iw⟩ := Le
    obtain ⟨us, eL2, iu⟩ := Lr
    have lw : ws.length = e.length := all_len iw
    have lu : us.length = r.length := all_len iu
    refine iteF ⟨.ref l, rfl, .ref l2, rfl, l, l2, ws, us, rfl, .inl ⟨.of eL, .of eL2, fun D hD => ?_⟩⟩
    refine lc_all (walk_zip (xs := ws) (ys := us) (n := ws.length) (by omega)) (fun j H4 => Same H H4 ∧ ∃ acc, H4 D = some (.lst acc) ∧ ImAll K H4 acc (((sub e g r).take j).map rD)) ⟨same_new hD, [], upd_same, .nil⟩ (fun j H4 _ z => ⟨.of (z.1 _ _ eL), .of (z.1 _ _ eL2)⟩) (fun j x H4 H5 hj z y => ?_) (fun H4 z => ?_)
    · obtain ⟨sm4, acc, eD, ia⟩ := z
      obtain ⟨T2, u1, u2, rfl, nT2, rfl, k1, k2⟩ := y
      obtain ⟨o, ho, io⟩ := all_get iw k1
      obtain ⟨t, ht, it⟩ := all_get iu k2
      have sm5 : Same H (upd H4 T2 (.tup [u1, u2])) := sm4.trans (same_new nT2)
      have io5 := Im.mono (tk_same sm5) _ io
      have it5 := Im.mono (tk_same sm5) _ it
      have ig5 : Im K (upd H4 T2 (.tup [u1, u2])) (.ref af) (rD g) := rat_mk (haf.mono (tk_same sm5))
      have eD5 : (upd H4 T2 (.tup [u1, u2])) D = some (.lst acc) := by rw [upd_ne (ne_of_none eD nT2)]; exact eD
      have ia5 := ImAll.mono (tk_new (o := .tup [u1, u2]) nT2) _ ia
      have hget : (sub e g r)[j]? = some (o - g * t) := sub_get ho ht
      have lacc' : acc.length = j := by
        rw [all_len ia, List.length_take, sub_length hl]; omega
      obtain ⟨a2, rfl, ha2⟩ := rat_inv it5
      refine ⟨T2, _, rfl, .of upd_same, rfl, u1, _, rfl, .ref a2, _, rfl, rfl, rfl, ?_⟩
      refine ⟨.ref a2, rfl, a2, _, 0, _, rfl, rfl, ha2.sq, atI_nat (j := 0) rfl, rfl, _, rfl, ?_⟩
      generalize hG5 : upd H4 T2 (.tup [u1, V.ref a2]) = G5 at *
      have fin : ∀ (v : V) (H6 : Hp), Same G5 H6 → Im K H6 v (rD (o - g * t)) → ∃ acc, H6 D = some (.lst acc) ∧ acc.length < sizeLine ∧ Same H (upd H6 D (.lst (acc ++ [v]))) ∧ ∃ acc', (upd H6 D (.lst (acc ++ [v]))) D = some (.lst acc') ∧ ImAll K (upd H6 D (.lst (acc ++ [v]))) acc' (((sub e g r).take (j + 1)).map rD) := by
        intro v H6 sm6 iv
        have eD6 := sm6 _ _ eD5
        refine ⟨acc, eD6, small1000 (by omega), fun c oo ec => ?_, acc ++ [v], upd_same, ?_⟩
        · rw [upd_ne (ne_of_none ec hD)]
          exact sm6 _ _ (sm5 _ _ ec)
        · exact all_snoc (ImAll.mono ((tk_same sm6).trans (tk_lst eD6)) _ ia5) hget (Im.mono (tk_lst eD6) _ iv)
      by_cases t0 : t.num = 0
      · rw [decide_eq_true (show V.int t.num = V.int 0 by rw [t0])]
        refine iteT ⟨u1, rfl, fin u1 G5 (Same.refl _) ?_⟩
        have e0 : o - g * t = o := by rw [num_zero t0]; grind
        rw [e0]
        exact io5
      · rw [decide_eq_false (show ¬ V.int t.num = V.int 0 from fun z => t0 (V.int.inj z))]
        have bt : Bd 2900 2900 t := by rw [← fn_get ht]; exact br j
        have bo : Bd 2900 2900 o := by rw [← fn_get ho]; exact be j
        refine iteF ⟨u1, rfl, .ref af, rfl, .ref a2, rfl, _, _, g, t, rfl, ig5, it5, bg.mono (by decide) (by decide), bt.mono (by decide) (by decide), fun p2 H6 sm6 np2 i6 => ?_⟩
        refine ⟨u1, .ref p2, o, g * t, rfl, Im.mono (tk_same sm6) _ io5, i6, bo.mono (by decide) (by decide), (Bd.mul bg bt).mono (by decide) (by decide), fun p3 H7 sm7 np3 i7 => ?_⟩
        exact fin _ _ (sm6.trans sm7) i7
    · obtain ⟨sm4, acc, eD, ia⟩ := z
      rw [List.take_of_length_le (by rw [sub_length hl]; omega)] at ia
      exact q D _ sm4 (.inr hD) ⟨acc, eD, ia⟩

abbrev s_cleared : Stmt := topS 29
theorem sc_cleared : FnScope ["entries", "held", "pivot", "row"] ["entries", "held"] (defScope s_cleared) := ⟨rfl, rfl, rfl, by decide +kernel, rfl, by decide +kernel, by decide +kernel⟩
/-- rows of the length N, their entries not too great -/
def Tame (hl : HL) (N : Nat) : Prop := ∀ x ∈ hl, x.2.length = N ∧ x.1 < N ∧ ∀ q, Bd 2900 2900 (fn x.2 q)
def sp_cleared (K : PySem.W.Frag) : Sp := fun vs H Q _ => ∃ l h e hl, vs = [.ref l, .ref h] ∧ LRow K H l e ∧ HeldAt K H h hl ∧ Tame hl e.length ∧ e.length ≤ 96 ∧ (∀ j q, Bd 2900 2900 (fn (clr e (hl.take j)) q)) ∧ ∀ p H', Same H H' → LRow K H' p (clr e hl) → Q (.ref p) H'
theorem ok_cleared {f : Addr} {fd : FuncData} {k : Nat} (F : Fun K "cleared" "cleared" s_cleared f fd) (T : Tx K mg C){ki : Nat} (D_less_row : Def P w K mg base ki "less_row" s_less_row ["entries", "factor", "row"] (sp_less_row K)) (hk : ki ≤ k) : FnOk P w K mg base CX0 (k + 1) f fd ["entries", "held"] (sp_cleared K) := by
  have nd := sc_cleared.nd
  refine F.ok sc_cleared (fun vs H Q E h => ?_) (fun cdv A outer s H vs Q E hr h => ?_)
  · obtain ⟨_, _, _, _, rfl, _⟩ := h
    rfl
  · obtain ⟨l, h, e, hl, rfl, Le, ⟨hs, eh, lh, gh⟩, tm, h96, bd, q⟩ := h
    refine ⟨_, (pss_cons (ps_for PassesOwn.never rfl (kpi_list K (pv 1)) (kpg_tup K (n := 2) rfl (pgs_cons (pg_name (i := 2) nd rfl (.inl rfl)) (pgs_cons (pg_name (i := 3) nd rfl (.inl rfl)) pgs_nil)))
        (pss_one (ps_set (i := 0) nd rfl (.inl rfl) (pe_def D_less_row (hr.mono (by omega)) rfl (pa_cons (pv 0) (pa_cons (pe_ix (kix_list K) (pv 0) (pv 2) (fun _ _ => rfl)) (pa_cons (pv 3) pa_nil)))))))
      (pss_one (ps_ret (pv 0)))), ?_⟩
    refine ⟨.ref h, rfl, h, rfl, ⟨hs, .of eh⟩, ?_⟩
    refine for_it (walk_list (xs := hs)) (fun i σ H2 => ∃ p y2 y3, σ = [some (.ref p), some (.ref h), y2, y3] ∧ Same H H2 ∧ LRow K H2 p (clr e (hl.take i))) ⟨l, none, none, rfl, Same.refl H, Le⟩ (fun i σ H2 _ ⟨_, _, _, _, sm, _⟩ => .of (sm _ _ eh)) ?_ ?_
    · rintro i x σ H2 H3 hi ⟨p', y2, y3, rfl, sm, Lp⟩ ⟨rfl, hx⟩
      have hi' : i < hl.length := by omega
      have hg : hl[i]? = some ((hl[i]).1, (hl[i]).2) := List.getElem?_eq_getElem hi'
      have tmi := tm _ (List.getElem_mem hi')
      generalize (hl[i]).1 = pv at *
      generalize (hl[i]).2 = rw' at *
      obtain ⟨a, b, k1, k2, k3, _⟩ := gh i _ _ hg
      rw [k1] at hx
      obtain rfl := Option.some.inj hx
      have lc : (clr e (hl.take i)).length = e.length := clr_length fun x hx => (tm x (List.mem_of_mem_take hx)).1
      refine ⟨a, _, rfl, .of (sm _ _ k2), rfl, .int pv, _, rfl, .ref b, _, rfl, rfl, ?_⟩
      obtain ⟨ws, eL, iw⟩ := id Lp
      obtain ⟨u, hu, iu⟩ := all_at iw (get_fn (show pv < (clr e (hl.take i)).length by rw [lc]; exact tmi.2.1))
      refine ⟨.ref p', rfl, .ref p', rfl, .int pv, rfl, p', ws, _, _, rfl, rfl, .of eL, atI_nat hu, .ref b, rfl, ?_⟩
      refine ⟨p', u, b, clr e (hl.take i), fn (clr e (hl.take i)) pv, rw', rfl, Lp, iu, k3.same sm, by rw [lc, tmi.1], by rw [tmi.1]; exact h96, bd i, bd i pv, tmi.2.2, fun p2 H4 sm4 _ L4 => ⟨p2, _, _, rfl, sm.trans sm4, ?_⟩⟩
      rw [List.take_add_one, hg]
      show LRow K H4 p2 (clr e (hl.take i ++ [(pv, rw')]))
      rw [clr_snoc]
      exact L4
    · rintro σ H2 ⟨p', y2, y3, rfl, sm, Lp⟩
      rw [List.take_of_length_le (by omega)] at Lp
      exact ⟨.ref p', rfl, q p' _ sm Lp⟩
end
end K42

set_option Elab.async false
set_option linter.all false
set_option maxRecDepth 100000
set_option exponentiation.threshold 20000
namespace K42
open PySem PySem.Spec PyProof.Rows L2 Ly Mt El
theorem tin_none {hl : HL} {e : List Rat} {n : Nat} (h : first (clr e hl) n = none) : tin hl e n = hl := by
  unfold tin; rw [h]
theorem tin_some {hl : HL} {e : List Rat} {n p : Nat} (h : first (clr e hl) n = some p) : tin hl e n = hl.map (fun x => (x.1, sub x.2 (fn x.2 p) (nrm (clr e hl) p))) ++ [(p, nrm (clr e hl) p)] := by
  unfold tin; rw [h]
theorem Tame.clr {hl : HL} {e : List Rat} (t : Tame hl e.length) : (clr e hl).length = e.length := clr_length fun x hx => (t x hx).1
section
variable {P : Program} {w : World} {K : PySem.W.Frag} {mg : Str → Option Value} {base : Heap} {C : Addr}

abbrev s_taken_in : Stmt := topS 30
theorem sc_taken_in : FnScope ["held", "entries", "size", "left", "pivot", "entry", "place", "row"] ["held", "entries", "size"] (defScope s_taken_in) := ⟨rfl, rfl, rfl, by decide +kernel, rfl, by decide +kernel, by decide +kernel⟩
def sp_taken_in (K : PySem.W.Frag) : Sp := fun vs H Q _ => ∃ h l n hl e, vs = [.ref h, .ref l, .int (n : Nat)] ∧ HeldAt K H h hl ∧ LRow K H l e ∧ Tame hl e.length ∧ e.length ≤ 96 ∧ n ≤ 48 ∧ n ≤ e.length ∧ hl.length ≤ 48 ∧ (∀ j q, Bd 2900 2900 (fn (clr e (hl.take j)) q)) ∧ Tame (tin hl e n) e.length ∧
  ∀ p H', Same H H' → HeldAt K H' p (tin hl e n) → Q (.ref p) H'
theorem ok_taken_in {f : Addr} {fd : FuncData} {k : Nat} (F : Fun K "taken_in" "taken_in" s_taken_in f fd) (T : Tx K mg C){ki : Nat} (D_cleared : Def P w K mg base ki "cleared" s_cleared ["entries", "held"] (sp_cleared K)) {kj : Nat} (D_first_place : Def P w K mg base kj "first_place" s_first_place ["entries", "size"] (sp_first_place K)) {kl : Nat} (D_over : Def P w K mg base kl "over" s_over ["one", "other"] (sp_over K)) {kn : Nat} (D_less_row : Def P w K mg base kn "less_row" s_less_row ["entries", "factor", "row"] (sp_less_row K)) (hk : ki ≤ k) (hj : kj ≤ k) (hl : kl ≤ k) (hn : kn ≤ k) : FnOk P w K mg base CX0 (k + 1) f fd ["held", "entries", "size"] (sp_taken_in K) := by
  have nd := sc_taken_in.nd
  refine F.ok sc_taken_in (fun vs H Q E h => ?_) (fun cdv A outer s H vs Q E hr h => ?_)
  · obtain ⟨_, _, _, _, _, rfl, _⟩ := h
    rfl
  · obtain ⟨h, l, n, hl, e, rfl, Hh, Le, tm, h96, n48, ne, l48, bd, tm2, q⟩ := h
    refine ⟨_, (pss_cons (ps_set (i := 3) nd rfl (.inr rfl) (pe_def D_cleared (hr.mono (by omega)) rfl (pa_cons (pv 1) (pa_cons (pv 0) pa_nil))))
      (pss_cons (ps_set (i := 4) nd rfl (.inr rfl) (pe_def D_first_place (hr.mono (by omega)) rfl (pa_cons (pv 3) (pa_cons (pv 2) pa_nil))))
      (pss_cons (ps_if (pt_cmp (pc_isN (pv 4)))
        (pss_one (ps_ret (pv 0)))
        pss_nil)
      (pss_cons (ps_set (i := 3) nd rfl (.inr rfl) (pe_lc (own := [("entry", 5)]) (g := gName 5) (tt := tYes) rfl nd (kpi_list K (pv 3)) (blkOk_by (by rfl)) (fun _ _ _ _ _ => (pg_name (i := 5) nd rfl (.inl rfl))) (fun _ _ _ _ _ => pts_nil) (fun _ _ _ _ _ => (pe_def D_over (hr.mono (by omega)) rfl (pa_cons (pv 5) (pa_cons (pe_ix (kix_list K) (pv 3) (pv 4) (fun _ _ => rfl)) pa_nil))))))
      (pss_one (ps_ret (pe_op op_cat (pe_lc (own := [("place", 6), ("row", 7)]) (g := _) (tt := tYes) rfl nd (kpi_list K (pv 0)) (blkOk_by (by rfl)) (fun _ _ _ _ _ => (kpg_tup K (n := 2) rfl (pgs_cons (pg_name (i := 6) nd rfl (.inl rfl)) (pgs_cons (pg_name (i := 7) nd rfl (.inl rfl)) pgs_nil)))) (fun _ _ _ _ _ => pts_nil) (fun _ _ _ _ _ => (pe_tup (pa_cons (pv 6) (pa_cons (pe_def D_less_row (hr.mono (by omega)) rfl (pa_cons (pv 7) (pa_cons (pe_ix (kix_list K) (pv 7) (pv 4) (fun _ _ => rfl)) (pa_cons (pv 3) pa_nil)))) pa_nil))))) (pe_lst (pa_cons (pe_tup (pa_cons (pv 4) (pa_cons (pv 3) pa_nil))) pa_nil))))))))), ?_⟩
    refine ⟨.ref l, rfl, .ref h, rfl, l, h, e, hl, rfl, Le, Hh, tm, h96, bd, fun p1 H1 sm1 L1 => ?_⟩
    have lc := tm.clr
    have bdc : ∀ q, Bd 2900 2900 (fn (clr e hl) q) := fun q => by
      have := bd hl.length q
      rw [List.take_of_length_le (Nat.le_refl _)] at this
      exact this
    refine ⟨.ref p1, rfl, .int n, rfl, p1, clr e hl, n, rfl, L1, by omega, n48, ?_⟩
    cases hf : first (clr e hl) n with
    | none =>
      refine ⟨_, rfl, _, rfl, ?_⟩
      rw [decide_eq_true (show optV none = V.non from rfl)]
      refine iteT ⟨.ref h, rfl, q h H1 sm1 ?_⟩
      rw [tin_none hf]
      exact Hh.same sm1
    | some p =>
      refine ⟨_, rfl, _, rfl, ?_⟩
      rw [decide_eq_false (show ¬ optV (some p) = V.non from fun z => nomatch z)]
      obtain ⟨pn, p0⟩ := first_some hf
      rw [tin_some hf] at q tm2
      have tn := tm2 (p, nrm (clr e hl) p) (List.mem_append_right _ (List.mem_singleton.mpr rfl))
      obtain ⟨ws, eL, iw⟩ := id L1
      have lw : ws.length = (clr e hl).length := all_len iw
      refine iteF ⟨.ref p1, rfl, p1, rfl, ⟨ws, .of eL⟩, fun D hD => ?_⟩
      refine lc_all (walk_list (xs := ws)) (fun j H2 => Same H1 H2 ∧ ∃ acc, H2 D = some (.lst acc) ∧ ImAll K H2 acc (((nrm (clr e hl) p).take j).map rD)) ⟨same_new hD, [], upd_same, .nil⟩ (fun j H2 _ z => .of (z.1 _ _ eL)) (fun j x H2 H3 hj z y => ?_) (fun H2 z => ?_)
      · obtain ⟨sm, acc, eD, ia⟩ := z
        obtain ⟨rfl, hx⟩ := y
        obtain ⟨o, ho, io⟩ := all_get iw hx
        obtain ⟨u, hu, iu⟩ := all_at iw (get_fn (show p < (clr e hl).length by omega))
        have lacc : acc.length = j := by rw [all_len ia, List.length_take, nrm_length]; omega
        have hget : (nrm (clr e hl) p)[j]? = some (o / fn (clr e hl) p) := by unfold nrm; rw [List.getElem?_map, ho]; rfl
        refine ⟨rfl, x, rfl, .ref p1, rfl, .int p, rfl, p1, ws, _, _, rfl, rfl, .of (sm _ _ eL), atI_nat hu, x, u, o, fn (clr e hl) p, rfl, Im.mono (tk_same sm) _ io, Im.mono (tk_same sm) _ iu, (by rw [← fn_get ho]; exact (bdc j).mono (by decide) (by decide)), (bdc p).mono (by decide) (by decide), p0, fun p2 H4 sm4 np i4 => ?_⟩
        have eD4 := sm4 _ _ eD
        refine ⟨acc, eD4, small1000 (by omega), fun c oo ec => ?_, acc ++ [.ref p2], upd_same, ?_⟩
        · rw [upd_ne (ne_of_none ec hD)]
          exact sm4 _ _ (sm _ _ ec)
        · exact all_snoc (ImAll.mono ((tk_same sm4).trans (tk_lst eD4)) _ ia) hget (Im.mono (tk_lst eD4) _ i4)
      · obtain ⟨sm, acc, eD, ia⟩ := z
        rw [List.take_of_length_le (by rw [nrm_length]; omega)] at ia
        have sm2 := sm1.trans sm
        have LD : LRow K H2 D (nrm (clr e hl) p) := ⟨acc, eD, ia⟩
        obtain ⟨hs, eh, ga⟩ := Hh.same sm2
        have lh := ga.1
        refine ⟨.ref h, rfl, h, rfl, ⟨hs, .of eh⟩, fun D2 hD2 => ?_⟩
        refine lc_all (walk_list (xs := hs)) (fun j H3 => Same H2 H3 ∧ ∃ acc2, H3 D2 = some (.lst acc2) ∧ HAcc K H3 D2 acc2 ((hl.take j).map (fun x => (x.1, sub x.2 (fn x.2 p) (nrm (clr e hl) p))))) ⟨same_new hD2, [], upd_same, rfl, fun i p r z => by simp at z⟩ (fun j H3 _ z => .of (z.1 _ _ eh)) (fun j x H3 H4 hj z y => ?_) (fun H3 z => ?_)
        · obtain ⟨sm3, acc2, eD2, ga2⟩ := z
          obtain ⟨rfl, hx⟩ := y
          have hj' : j < hl.length := by omega
          have hg : hl[j]? = some ((hl[j]).1, (hl[j]).2) := List.getElem?_eq_getElem hj'
          have tmj := tm _ (List.getElem_mem hj')
          generalize (hl[j]).1 = pv at *
          generalize (hl[j]).2 = rw' at *
          obtain ⟨a, b, k1, k2, k3, k4⟩ := ga.2 j _ _ hg
          rw [k1] at hx
          obtain rfl := Option.some.inj hx
          have k2' := sm3 _ _ k2
          have k3' := k3.same sm3
          have bn : b ≠ D2 := by
            obtain ⟨_, z, _⟩ := k3
            exact ne_of_none z hD2
          obtain ⟨us, eb, iu⟩ := id k3'
          obtain ⟨u, hu, iu⟩ := all_at iu (get_fn (show p < rw'.length by have := tmj.1; omega))
          refine ⟨a, _, rfl, .of k2', rfl, .int pv, _, rfl, .ref b, _, rfl, rfl, rfl, ?_⟩
          refine ⟨.int pv, rfl, .ref b, rfl, .ref b, rfl, .int p, rfl, b, us, _, _, rfl, rfl, .of eb, atI_nat hu, .ref D, rfl, ?_⟩
          refine ⟨b, u, D, rw', fn rw' p, nrm (clr e hl) p, rfl, k3', iu, LD.same sm3, by rw [tmj.1, nrm_length, lc], by rw [nrm_length]; omega, tmj.2.2, tmj.2.2 p, tn.2.2, fun p2 H5 sm5 np L5 => ?_⟩
          refine ⟨by show 2 ≤ sizeLine; decide, fun T hT => ?_⟩
          have eD5 := sm5 _ _ eD2
          have eD6 : (upd H5 T (.tup [.int (pv : Nat), .ref p2])) D2 = some (.lst acc2) := by rw [upd_ne (ne_of_none eD5 hT)]; exact eD5
          have sm6 : Same H4 (upd H5 T (.tup [.int (pv : Nat), .ref p2])) := sm5.trans (same_new hT)
          have pn2 : p2 ≠ D2 := by
            rcases np with z | z
            · rw [z]; exact bn
            · exact fun e => by rw [e, eD2] at z; cases z
          refine ⟨acc2, eD6, small1000 (by rw [ga2.1, List.length_map, List.length_take]; omega), fun c oo ec => ?_, acc2 ++ [.ref T], upd_same, ?_⟩
          · rw [upd_ne (ne_of_none ec hD2)]
            exact sm6 _ _ (sm3 _ _ ec)
          · rw [List.take_add_one, hg, List.map_append]
            refine ((ga2.same sm6).bar bar_upd eD6).snoc (p := pv) (r := sub rw' (fn rw' p) (nrm (clr e hl) p)) (b := p2) ?_ ?_ pn2
            · rw [upd_ne (fun e => by rw [e] at hT; rw [hT] at eD5; cases eD5), upd_same]
            · exact (L5.same (same_new hT)).bar bar_upd (bar_upd.tk eD6) pn2
        · obtain ⟨sm3, acc2, eD2, ga2⟩ := z
          rw [List.take_of_length_le (by omega)] at ga2
          refine ⟨.int p, rfl, .ref D, rfl, by show 2 ≤ sizeLine; decide, fun T hT => ⟨by show 1 ≤ sizeLine; decide, fun L hL => ?_⟩⟩
          have sm4 := (sm3.trans (same_new (o := .tup [.int (p : Nat), .ref D]) hT)).trans (same_new (o := .lst [.ref T]) hL)
          have nDT : D2 ≠ T := ne_of_none eD2 hT
          have eD4 : (upd (upd H3 T (.tup [.int (p : Nat), .ref D])) L (.lst [.ref T])) D2 = some (.lst acc2) := by
            have : (upd H3 T (.tup [.int (p : Nat), .ref D])) D2 = some (.lst acc2) := by rw [upd_ne nDT]; exact eD2
            rw [upd_ne (ne_of_none this hL)]; exact this
          have eT4 : (upd (upd H3 T (.tup [.int (p : Nat), .ref D])) L (.lst [.ref T])) T = some (.tup [.int (p : Nat), .ref D]) := by
            rw [upd_ne (ne_of_none upd_same hL), upd_same]
          have ga4 := ga2.same ((same_new (o := .tup [.int (p : Nat), .ref D]) hT).trans (same_new (o := .lst [.ref T]) hL))
          have LD4 := LD.same sm4
          generalize hG : upd (upd H3 T (.tup [.int (p : Nat), .ref D])) L (.lst [.ref T]) = G at *
          have eL4 : G L = some (.lst [.ref T]) := by rw [← hG, upd_same]
          have nDD : D ≠ D2 := ne_of_none eD hD2
          refine ⟨D2, L, acc2, [.ref T], rfl, rfl, eD4, eL4, ?_, fun p3 hp3 => ?_⟩
          · have := small1000 (show acc2.length + 1 ≤ 1000 by rw [ga2.1, List.length_map]; omega)
            exact Nat.le_of_lt this
          · have ne3 : ∀ {c : Addr} {o : HO}, G c = some o → c ≠ p3 := fun z => ne_of_none z hp3
            have fin : HAcc K G D2 (acc2 ++ [.ref T]) (hl.map (fun x => (x.1, sub x.2 (fn x.2 p) (nrm (clr e hl) p))) ++ [(p, nrm (clr e hl) p)]) := ga4.snoc (p := p) (b := D) eT4 LD4 nDD
            refine q p3 _ ((sm2.trans sm4).trans (same_new hp3)) ⟨_, upd_same, fin.1, fun i p' r' z => ?_⟩
            obtain ⟨a, b, k1, k2, k3, k4⟩ := fin.2 i p' r' z
            obtain ⟨us', e', _⟩ := id k3
            exact ⟨a, b, k1, (same_new hp3) _ _ k2, k3.same (same_new hp3), ne3 e'⟩
end
end K42

set_option Elab.async false
set_option linter.all false
set_option maxRecDepth 100000
set_option exponentiation.threshold 20000
namespace K42
open PySem PySem.Spec PyProof.Rows L2 Ly Mt El
/-- rows that a solver may take -/
structure Task (s : Int) (E m size : Nat) (rows : List (List Rat)) : Prop where
  ok : Okay s E m size rows
  big : (m + 1) * (E * (m * E) ^ m) < 2 ^ 2900
  l48 : rows.length ≤ 48
  n48 : size ≤ 48
/-- ints when s times -/
def Sc (s : Int) (E : Nat) (e : List Rat) : Prop := ∀ q, ∃ z : Int, (s : Rat) * fn e q = (z : Rat) ∧ z.natAbs ≤ E
section
variable {s : Int} {E m size : Nat} {rows : List (List Rat)} (t : Task s E m size rows)
include t
theorem Task.pow : (m * E) ^ m < 2 ^ 2900 := by
  have h1 : (m * E) ^ m ≤ E * (m * E) ^ m := Nat.le_mul_of_pos_left _ t.ok.E1
  have h2 : E * (m * E) ^ m ≤ (m + 1) * (E * (m * E) ^ m) := Nat.le_mul_of_pos_left _ (by omega)
  exact Nat.lt_of_le_of_lt (Nat.le_trans h1 h2) t.big
theorem Task.tame (i : Nat) : Tame (tins size ((exts rows).take i) []) (size + rows.length) := by
  obtain ⟨taken, R⟩ := t.ok.stage i
  intro x hx
  have hp := R.red.piv (x.1, fn x.2) (List.mem_map.mpr ⟨x, hx, rfl⟩)
  exact ⟨R.len x hx, by show x.1 < _; have : x.1 < size := hp; omega, R.bd (t.ok.stage_few i) t.ok.E1 t.ok.m1 t.pow x hx⟩
theorem Task.part (i : Nat) {e : List Rat} (he : e.length = size + rows.length) (hi : Sc s E e) : ∀ j q, Bd 2900 2900 (fn (clr e ((tins size ((exts rows).take i) []).take j)) q) := by
  obtain ⟨taken, R⟩ := t.ok.stage i
  have hd : s.natAbs * (m * E) ^ m < 2 ^ 2900 := by
    have h1 : s.natAbs * (m * E) ^ m ≤ E * (m * E) ^ m := Nat.mul_le_mul_right _ t.ok.sE
    have h2 : E * (m * E) ^ m ≤ (m + 1) * (E * (m * E) ^ m) := Nat.le_mul_of_pos_left _ (by omega)
    exact Nat.lt_of_le_of_lt (Nat.le_trans h1 h2) t.big
  exact fun j q => R.part (b := 0) (t.ok.stage_few i) t.ok.E1 t.ok.m1 he t.ok.s0 hi t.big hd j q
theorem Task.few (i : Nat) : (tins size ((exts rows).take i) []).length ≤ 48 := by
  have h := tins_length (size := size) (es := (exts rows).take i) (held := [])
  have h2 : ((exts rows).take i).length ≤ rows.length := by rw [List.length_take, exts_length t.ok]; omega
  have h3 := t.l48
  rw [List.length_nil, Nat.zero_add] at h
  omega
theorem Task.all : tins size ((exts rows).take rows.length) [] = solved rows size := by
  unfold solved
  rw [List.take_of_length_le (by rw [exts_length t.ok]; omega)]
theorem Task.step {i : Nat} {r : List Rat} (h : rows[i]? = some r) : tins size ((exts rows).take (i + 1)) [] = tin (tins size ((exts rows).take i) []) (r ++ unitL i rows.length) size ∧ (r ++ unitL i rows.length) ∈ exts rows := by
  have hi := (List.getElem?_eq_some_iff.mp h).1
  have e : (exts rows)[i]? = some (r ++ unitL i rows.length) := by
    unfold exts
    rw [List.getElem?_map, List.getElem?_range hi]
    show some (rows.getD i [] ++ _) = _
    rw [List.getD_eq_getElem?_getD, h]; rfl
  rw [List.take_add_one, e]
  exact ⟨tins_snoc _ _ _ _, List.mem_of_getElem? e⟩
end
/-! ### instances -/
def F3 (n m : Nat) (v : V) : List (Str × V) := [("size", .int n), ("rows_given", .int m), ("held", v)]
theorem tk_ins {a : Addr} {H H' : Hp} {C dx : Addr} {fs : List (Str × V)} (s : Bar a H H') (h : H a = some (.ins C dx fs)) : TK H H' := fun b ys e => by
  refine s b _ (fun z => ?_) e
  subst z; rw [h] at e; cases e
theorem LRow.ins {K : PySem.W.Frag} {a : Addr} {H H' : Hp} {p : Addr} {r : List Rat} {C dx : Addr} {fs : List (Str × V)} (h : LRow K H p r) (s : Bar a H H') (i : H a = some (.ins C dx fs)) : LRow K H' p r := by
  obtain ⟨ws, h1, h2⟩ := h
  refine ⟨ws, s _ _ (fun z => ?_) h1, ImAll.mono (tk_ins s i) _ h2⟩
  subst z; rw [i] at h1; cases h1
theorem HeldAt.ins {K : PySem.W.Frag} {a : Addr} {H H' : Hp} {p : Addr} {hl : HL} {C dx : Addr} {fs : List (Str × V)} (h : HeldAt K H p hl) (s : Bar a H H') (i : H a = some (.ins C dx fs)) : HeldAt K H' p hl := by
  obtain ⟨hs, h1, h2, h3⟩ := h
  refine ⟨hs, s _ _ (fun z => ?_) h1, h2, fun j p' r e => ?_⟩
  · subst z; rw [i] at h1; cases h1
  · obtain ⟨x, b, k1, k2, k3, k4⟩ := h3 j p' r e
    exact ⟨x, b, k1, tk_ins s i _ _ k2, k3.ins s i, k4⟩
theorem all_app {K : PySem.W.Frag} {H : Hp} : ∀ {xs ys : List V} {ds es : List PyData}, ImAll K H xs ds → ImAll K H ys es → ImAll K H (xs ++ ys) (ds ++ es)
  | _, _, _, _, .nil, b => b
  | _, _, _, _, .cons a r, b => .cons a (all_app r b)
section
variable {P : Program} {w : World} {K : PySem.W.Frag} {mg : Str → Option Value} {base : Heap} {C : Addr}

abbrev s_Solver_init : Stmt := inClass (topS 32) 0
theorem sc_Solver_init : FnScope ["self", "rows", "size", "index", "row"] ["self", "rows", "size"] (defScope s_Solver_init) := ⟨rfl, rfl, rfl, by decide +kernel, rfl, by decide +kernel, by decide +kernel⟩
def sp_init (K : PySem.W.Frag) (C : Addr) : Sp := fun vs H Q _ => ∃ (a dx r : Addr) (rows : List (List Rat)) (size : Nat) (s : Int) (E m : Nat), vs = [.ref a, .ref r, .int size] ∧ H a = some (.ins C dx []) ∧ Im K H (.ref r) (mD rows) ∧ Task s E m size rows ∧
  ∀ H' h, Bar a H H' → H' a = some (.ins C dx (F3 size rows.length (.ref h))) → HeldAt K H' h (solved rows size) → Q .non H'
theorem ok_Solver_init {f : Addr} {fd : FuncData} {k : Nat} (F : Fun K "__init__" "Solver.__init__" s_Solver_init f fd) (T : Tx K mg C){ki : Nat} (D_taken_in : Def P w K mg base ki "taken_in" s_taken_in ["held", "entries", "size"] (sp_taken_in K)) {kj : Nat} (D_unit : Def P w K mg base kj "unit" s_unit ["index", "size"] (sp_unit K)) (hk : ki ≤ k) (hj : kj ≤ k) : FnOk P w K mg base CX0 (k + 1) f fd ["self", "rows", "size"] (sp_init K C) := by
  have nd := sc_Solver_init.nd
  refine F.ok sc_Solver_init (fun vs H Q E h => ?_) (fun cdv A outer s H vs Q E hr h => ?_)
  · obtain ⟨_, _, _, _, _, _, _, _, rfl, _⟩ := h
    rfl
  · obtain ⟨a, dx, r, rows, size, sc, Ec, m, rfl, ea, ir, t, q⟩ := h
    obtain ⟨_, xs, er, hx0, hxs⟩ := mat_inv ir
    obtain rfl := V.ref.inj er
    have lx : xs.length = rows.length := all_len hxs
    refine ⟨_, (pss_cons (ps_fld (pv 0) (pv 2) rfl)
      (pss_cons (ps_fld (pv 0) (pe_callB (kcall_len K) (by rfl) T.m_len PySem.boot_len (pa_cons (pv 1) pa_nil)) rfl)
      (pss_cons (ps_fld (pv 0) (pe_lst pa_nil) rfl)
      (pss_one (ps_for PassesOwn.never rfl (kpi_enumT K (by rfl) T.m_enumerate (pa_cons (pv 1) pa_nil)) (kpg_tup K (n := 2) rfl (pgs_cons (pg_name (i := 3) nd rfl (.inl rfl)) (pgs_cons (pg_name (i := 4) nd rfl (.inl rfl)) pgs_nil)))
        (pss_one (ps_fld (pv 0) (pe_def D_taken_in (hr.mono (by omega)) rfl (pa_cons (kpe_fld K (pv 0)) (pa_cons (pe_op op_cat (pe_callTy (kcall_list K) (by rfl) T.m_list (by decide +kernel) (pa_cons (pv 4) pa_nil)) (pe_def D_unit (hr.mono (by omega)) rfl (pa_cons (pv 3) (pa_cons (kpe_fld K (pv 0)) pa_nil)))) (pa_cons (pv 2) pa_nil)))) rfl))))))), ?_⟩
    refine ⟨.int size, rfl, .ref a, rfl, a, C, dx, [], rfl, ea, T.cl, T.a_size, by decide, ?_⟩
    have b1 : Bar a H (upd H a (.ins C dx (putF "size" (.int size) []))) := bar_upd
    have e1 : (upd H a (.ins C dx (putF "size" (.int size) []))) a = some (.ins C dx [("size", .int size)]) := upd_same
    generalize upd H a (.ins C dx (putF "size" (.int size) [])) = G1 at *
    have hx1 := hx0.mono (tk_ins b1 ea)
    refine ⟨.ref r, rfl, r, xs, rfl, .inr hx1.sq, .ref a, rfl, a, C, dx, _, rfl, e1, T.cl, T.a_rows_given, by show 1 < 1000; decide, ?_⟩
    have b2 : Bar a G1 (upd G1 a (.ins C dx (putF "rows_given" (.int (xs.length : Nat)) [("size", .int size)]))) := bar_upd
    have e2 : (upd G1 a (.ins C dx (putF "rows_given" (.int (xs.length : Nat)) [("size", .int size)]))) a = some (.ins C dx [("size", .int size), ("rows_given", .int (xs.length : Nat))]) := by rw [upd_same]; rfl
    generalize upd G1 a (.ins C dx (putF "rows_given" (.int (xs.length : Nat)) [("size", .int size)])) = G2 at *
    refine ⟨by show 0 ≤ sizeLine; decide, fun l hl => ?_⟩
    have e3 := (same_new (o := .lst []) hl) _ _ e2
    have el3 : (upd G2 l (.lst [])) l = some (.lst []) := upd_same
    have b3 : Bar a G2 (upd G2 l (.lst [])) := bar_same (same_new hl)
    generalize upd G2 l (.lst []) = G3 at *
    refine ⟨.ref a, rfl, a, C, dx, _, rfl, e3, T.cl, T.a_held, by show 2 < 1000; decide, ?_⟩
    have b4 : Bar a G3 (upd G3 a (.ins C dx (putF "held" (.ref l) [("size", .int size), ("rows_given", .int (xs.length : Nat))]))) := bar_upd
    have e4 : (upd G3 a (.ins C dx (putF "held" (.ref l) [("size", .int size), ("rows_given", .int (xs.length : Nat))]))) a = some (.ins C dx (F3 size xs.length (.ref l))) := by rw [upd_same]; rfl
    have nl : l ≠ a := fun z => by rw [z, e3] at el3; cases el3
    have el4 := b4 _ _ nl el3
    generalize upd G3 a (.ins C dx (putF "held" (.ref l) [("size", .int size), ("rows_given", .int (xs.length : Nat))])) = G4 at *
    have b04 := ((b1.trans b2).trans b3).trans b4
    refine ⟨.ref r, rfl, r, xs, rfl, (hx0.mono (tk_ins b04 ea)).sq, ?_⟩
    refine for_it (walk_enumT (xs := xs)) (fun i σ H2 => ∃ h y3 y4, σ = [some (.ref a), some (.ref r), some (.int size), y3, y4] ∧ Bar a H H2 ∧ H2 a = some (.ins C dx (F3 size xs.length (.ref h))) ∧ HeldAt K H2 h (tins size ((exts rows).take i) [])) ⟨l, none, none, rfl, b04, e4, [], el4, rfl, fun i p r z => by simp [tins] at z⟩ (fun i σ H2 _ ⟨_, _, _, _, b, _⟩ => (hx0.mono (tk_ins b ea)).sq) ?_ ?_
    · rintro i x σ H2 H3 hi ⟨h, y3, y4, rfl, b, e5, hh⟩ ⟨T1, x1, x2, rfl, nT, rfl, g1, g2⟩
      obtain rfl := Option.some.inj g1
      obtain ⟨ri, hri, iri⟩ := all_get hxs g2
      have st := t.step hri
      have mi := List.mem_of_getElem? hri
      have li := t.ok.len ri mi
      have mx := t.ok.ext_ints _ st.2
      have sm6 : Same H2 (upd H2 T1 (.tup [.int (i : Nat), x2])) := same_new nT
      have eT : (upd H2 T1 (.tup [.int (i : Nat), x2])) T1 = some (.tup [.int (i : Nat), x2]) := upd_same
      generalize upd H2 T1 (.tup [.int (i : Nat), x2]) = G6 at *
      have b6 := b.trans (bar_same sm6)
      obtain ⟨br, ys, rfl, hbr, hys⟩ := vec_inv (Im.mono (tk_ins b6 ea) _ iri)
      have ly : ys.length = ri.length := all_len hys
      have e6 := sm6 _ _ e5
      refine ⟨T1, _, rfl, .of eT, rfl, .int i, _, rfl, .ref br, _, rfl, rfl, ?_⟩
      refine ⟨.ref a, rfl, a, C, dx, _, _, rfl, e6, T.cl, T.a_held, rfl, .ref br, rfl, br, ys, rfl, .inr hbr.sq, fun l1 hl1 => ?_⟩
      have sm7 : Same G6 (upd G6 l1 (.lst ys)) := same_new hl1
      have el7 : (upd G6 l1 (.lst ys)) l1 = some (.lst ys) := upd_same
      generalize upd G6 l1 (.lst ys) = G7 at *
      have e7 := sm7 _ _ e6
      have l48 := t.l48
      have n48 := t.n48
      refine ⟨.int i, rfl, .ref a, rfl, a, C, dx, _, _, rfl, e7, T.cl, T.a_rows_given, rfl, i, xs.length, rfl, by omega, fun p8 H8 sm8 np8 L8 => ?_⟩
      obtain ⟨us, ep8, iu⟩ := L8
      have lu : us.length = xs.length := by rw [all_len iu, unitL_length]
      refine ⟨l1, p8, ys, us, rfl, rfl, sm8 _ _ el7, ep8, Nat.le_of_lt (small1000 (by omega)), fun c hc => ?_⟩
      have sm9 : Same H8 (upd H8 c (.lst (ys ++ us))) := same_new hc
      have e9 : (upd H8 c (.lst (ys ++ us))) c = some (.lst (ys ++ us)) := upd_same
      generalize upd H8 c (.lst (ys ++ us)) = G9 at *
      have sm69 := (sm7.trans sm8).trans sm9
      have Lc : LRow K G9 c (ri ++ unitL i rows.length) := by
        refine ⟨_, e9, ?_⟩
        rw [List.map_append]
        rw [lx] at iu
        exact all_app (ImAll.mono (tk_same sm69) _ hys) (ImAll.mono (tk_same sm9) _ iu)
      refine ⟨.int size, rfl, h, c, size, _, _, rfl, (hh.same sm6).same sm69, Lc, by rw [mx.1]; exact t.tame i, by rw [mx.1]; omega, n48, by rw [mx.1]; omega, t.few i, t.part i mx.1 mx.2, by rw [← st.1, mx.1]; exact t.tame (i + 1), fun p10 H10 sm10 hh10 => ?_⟩
      have e10 := sm10 _ _ (sm69 _ _ e6)
      refine ⟨.ref a, rfl, a, C, dx, _, rfl, e10, T.cl, T.a_held, by show 3 < 1000; decide, p10, _, _, rfl, ?_, ?_, ?_⟩
      · exact ((b6.trans (bar_same sm69)).trans (bar_same sm10)).trans bar_upd
      · rw [upd_same]; rfl
      · rw [st.1]
        exact hh10.ins bar_upd e10
    · rintro σ H2 ⟨h, y3, y4, rfl, b, e5, hh⟩
      rw [lx, t.all] at hh
      rw [lx] at e5
      exact q H2 h b e5 hh
end
end K42

set_option Elab.async false
set_option linter.all false
set_option maxRecDepth 100000
set_option exponentiation.threshold 20000
namespace K42
open PySem PySem.Spec PyProof.Rows L2 Ly Mt El
/-- a solver of rows -/
def SolvAt (K : PySem.W.Frag) (C : Addr) (H : Hp) (a : Addr) (size : Nat) (rows : List (List Rat)) : Prop := ∃ dx h, H a = some (.ins C dx (F3 size rows.length (.ref h))) ∧ HeldAt K H h (solved rows size)
theorem SolvAt.same {K : PySem.W.Frag} {C : Addr} {H H' : Hp} {a : Addr} {size : Nat} {rows : List (List Rat)} (h : SolvAt K C H a size rows) (s : Same H H') : SolvAt K C H' a size rows := by
  obtain ⟨dx, l, h1, h2⟩ := h
  exact ⟨dx, l, s _ _ h1, h2.same s⟩
section
variable {s : Int} {E m size : Nat} {rows : List (List Rat)} (t : Task s E m size rows) {target : List Rat} (ht : target.length = size) (hi : Sc s E target)
theorem ext_length : (target ++ List.replicate rows.length (0 : Rat)).length = target.length + rows.length := by simp
include hi in
theorem ext_sc : Sc s E (target ++ List.replicate rows.length 0) := by
  intro q
  by_cases h : q < target.length
  · rw [fn_app_left h]; exact hi q
  · obtain ⟨j, rfl⟩ : ∃ j, q = target.length + j := ⟨q - target.length, by omega⟩
    rw [fn_app_right]
    refine ⟨0, ?_, Nat.zero_le _⟩
    have : fn (List.replicate rows.length (0 : Rat)) j = 0 := by
      by_cases h : j < rows.length
      · exact fn_get (by rw [List.getElem?_replicate, if_pos h])
      · exact fn_none (by simp; omega)
    rw [this]; simp
include t ht in
theorem left_length : (leftOf rows size target).length = size + rows.length := by
  unfold leftOf
  rw [clr_length (fun x hx => by rw [← t.all] at hx; rw [(t.tame _ x hx).1, ext_length, ht]), ext_length, ht]
include t ht hi in
theorem left_bd (j q : Nat) : Bd 2900 2900 (fn (clr (target ++ List.replicate rows.length 0) ((solved rows size).take j)) q) := by
  rw [← t.all]
  exact t.part _ (by rw [ext_length, ht]) (ext_sc hi) j q
include t ht hi in
theorem left_bd' (q : Nat) : Bd 2900 2900 (fn (leftOf rows size target) q) := by
  have := left_bd t ht hi (solved rows size).length q
  rw [List.take_of_length_le (Nat.le_refl _)] at this
  exact this
end
theorem cut_drop {ws : List V} {n : Nat} (h : n ≤ ws.length) : cutV ws (some (n : Int)) none = ws.drop n := by
  unfold cutV
  rw [HT.sIx_nat, HT.sIx_none, Nat.min_eq_left h, List.take_of_length_le (by rw [List.length_drop]; omega)]
theorem bd_neg {n m : Nat} {x : Rat} (h : Bd n m x) : Bd n m (-x) := by
  refine ⟨?_, ?_⟩
  · rw [Rat.neg_num, Int.natAbs_neg]; exact h.1
  · rw [Rat.neg_den]; exact h.2
theorem all_drop {K : PySem.W.Frag} {H : Hp} {α : Type} {f : α → PyData} : ∀ {xs : List V} {l : List α} {n : Nat}, ImAll K H xs (l.map f) → ImAll K H (xs.drop n) ((l.drop n).map f)
  | xs, l, 0, h => h
  | [], [], n + 1, _ => .nil
  | x :: xs, [], n + 1, h => by cases h
  | [], a :: l, n + 1, h => by cases h
  | x :: xs, a :: l, n + 1, h => by
    cases h with | cons _ r => exact all_drop (xs := xs) (l := l) (n := n) r
theorem all_set {K : PySem.W.Frag} {H : Hp} {α : Type} {f : α → PyData} {v : V} {a : α} (iv : Im K H v (f a)) : ∀ {xs : List V} {l : List α} {n : Nat}, ImAll K H xs (l.map f) → ImAll K H (xs.set n v) ((l.set n a).map f)
  | [], [], _, _ => .nil
  | x :: xs, [], n, h => by cases h
  | [], a :: l, n, h => by cases h
  | x :: xs, a :: l, 0, h => by cases h with | cons _ r => exact .cons iv r
  | x :: xs, a :: l, n + 1, h => by cases h with | cons k r => exact .cons k (all_set iv r)
theorem marks_nil {l : List Rat} {place size : Nat} : (List.replicate size (0 : Rat)).set place (1 / fn l place) = marksL l place size [] := by
  apply List.ext_getElem?
  intro q
  unfold marksL
  rw [List.getElem?_set, List.getElem?_map, List.length_replicate, List.getElem?_replicate]
  by_cases hq : q < size
  · rw [List.getElem?_range hq]
    by_cases h : place = q
    · subst h
      rw [if_pos rfl, if_pos hq]
      show _ = some (if place = place then 1 / fn l place else 0)
      rw [if_pos rfl]
    · rw [if_neg h, if_pos hq]
      show _ = some (if q = place then 1 / fn l place else 0)
      rw [if_neg (fun e => h e.symm)]
  · rw [List.getElem?_eq_none (by simp; omega), if_neg hq]
    by_cases h : place = q
    · rw [if_pos h, if_neg (by omega)]; rfl
    · rw [if_neg h]; rfl
theorem marks_cons {l : List Rat} {place size : Nat} {x : Nat × List Rat} {h : HL} : (marksL l place size h).set x.1 (-(fn x.2 place) / fn l place) = marksL l place size (x :: h) := by
  apply List.ext_getElem?
  intro q
  unfold marksL
  rw [List.getElem?_set, List.getElem?_map, List.getElem?_map, List.length_map, List.length_range]
  by_cases hq : q < size
  · rw [List.getElem?_range hq]
    by_cases e : x.1 = q
    · rw [if_pos e, if_pos (by omega)]
      show _ = some (if q = x.1 then _ else _)
      rw [if_pos e.symm]
    · rw [if_neg e]
      show some (mkf l place h q) = some (if q = x.1 then _ else mkf l place h q)
      rw [if_neg (fun z => e z.symm)]
  · rw [List.getElem?_eq_none (by simp; omega)]
    by_cases e : x.1 = q
    · rw [if_pos e, if_neg (by omega)]; rfl
    · rw [if_neg e]; rfl
theorem ixN_nat {n p : Nat} (h : p < n) : ixN n (p : Int) = some p := by
  unfold ixN
  rw [if_pos (by omega), if_pos (by omega)]; rfl
section
variable {P : Program} {w : World} {K : PySem.W.Frag} {mg : Str → Option Value} {base : Heap} {C : Addr}

abbrev s_Solver_left_of : Stmt := inClass (topS 32) 1
theorem sc_Solver_left_of : FnScope ["self", "target"] ["self", "target"] (defScope s_Solver_left_of) := ⟨rfl, rfl, rfl, by decide +kernel, rfl, by decide +kernel, by decide +kernel⟩
def sp_left_of (K : PySem.W.Frag) (C : Addr) : Sp := fun vs H Q _ => ∃ (a : Addr) (v : V) (rows : List (List Rat)) (target : List Rat) (size : Nat) (s : Int) (E m : Nat), vs = [.ref a, v] ∧ SolvAt K C H a size rows ∧ Task s E m size rows ∧ Im K H v (vD target) ∧ target.length = size ∧ Sc s E target ∧
  ∀ p H', Same H H' → LRow K H' p (leftOf rows size target) → Q (.ref p) H'
theorem ok_Solver_left_of {f : Addr} {fd : FuncData} {k : Nat} (F : Fun K "left_of" "Solver.left_of" s_Solver_left_of f fd) (T : Tx K mg C){ki : Nat} (D_cleared : Def P w K mg base ki "cleared" s_cleared ["entries", "held"] (sp_cleared K)) (hk : ki ≤ k) : FnOk P w K mg base CX0 (k + 1) f fd ["self", "target"] (sp_left_of K C) := by
  have nd := sc_Solver_left_of.nd
  refine F.ok sc_Solver_left_of (fun vs H Q E h => ?_) (fun cdv A outer s H vs Q E hr h => ?_)
  · obtain ⟨_, _, _, _, _, _, _, _, rfl, _⟩ := h
    rfl
  · obtain ⟨a, v, rows, target, size, sc, Ec, m, rfl, ⟨dx, h, ea, hh⟩, t, iv, ht, hi, q⟩ := h
    obtain ⟨b, ys, rfl, hb, hys⟩ := vec_inv iv
    have ly : ys.length = target.length := all_len hys
    have l48 := t.l48
    have n48 := t.n48
    obtain ⟨z, gz, hz⟩ := T.zero
    have g_ZERO : ∃ u, mg "ZERO" = some u ∧ L2.RelV (.ref z) u := ⟨_, gz, rfl⟩
    refine ⟨_, (pss_one (ps_ret (pe_def D_cleared (hr.mono (by omega)) rfl (pa_cons (pe_op op_cat (pe_callTy (kcall_list K) (by rfl) T.m_list (by decide +kernel) (pa_cons (pv 1) pa_nil)) (pe_op op_rep (pe_lst (pa_cons (pe_gv rfl g_ZERO) pa_nil)) (kpe_fld K (pv 0)))) (pa_cons (kpe_fld K (pv 0)) pa_nil))))), ?_⟩
    refine ⟨.ref b, rfl, b, ys, rfl, .inr hb.sq, fun l1 hl1 => ⟨by show 1 ≤ sizeLine; decide, fun l2 hl2 => ?_⟩⟩
    have sm1 : Same H (upd H l1 (.lst ys)) := same_new hl1
    have el1 : (upd H l1 (.lst ys)) l1 = some (.lst ys) := upd_same
    generalize upd H l1 (.lst ys) = G1 at *
    have sm2 : Same G1 (upd G1 l2 (.lst [.ref z])) := same_new hl2
    have el2 : (upd G1 l2 (.lst [.ref z])) l2 = some (.lst [.ref z]) := upd_same
    generalize upd G1 l2 (.lst [.ref z]) = G2 at *
    refine ⟨.ref a, rfl, a, C, dx, _, _, rfl, sm2 _ _ (sm1 _ _ ea), T.cl, T.a_rows_given, rfl, l2, (rows.length : Nat), _, rfl, rfl, el2, by omega, by omega, ?_, fun p hp => ?_⟩
    · show 1 * ((rows.length : Int)).toNat ≤ sizeLine
      have := small1000 (show rows.length ≤ 1000 by omega)
      rw [Nat.one_mul]
      show rows.length ≤ sizeLine
      omega
    have sm3 : Same G2 (upd G2 p (.lst (List.replicate ((rows.length : Int)).toNat [V.ref z]).flatten)) := same_new hp
    have ep : (upd G2 p (.lst (List.replicate ((rows.length : Int)).toNat [V.ref z]).flatten)) p = some (.lst (List.replicate rows.length (V.ref z))) := by
      rw [upd_same]
      show some (HO.lst (List.replicate rows.length [V.ref z]).flatten) = _
      rw [flat1]
    generalize upd G2 p (.lst (List.replicate ((rows.length : Int)).toNat [V.ref z]).flatten) = G3 at *
    refine ⟨l1, p, ys, _, rfl, rfl, sm3 _ _ (sm2 _ _ el1), ep, Nat.le_of_lt (small1000 (by rw [List.length_replicate]; omega)), fun c hc => ?_⟩
    have sm4 : Same G3 (upd G3 c (.lst (ys ++ List.replicate rows.length (V.ref z)))) := same_new hc
    have e4 : (upd G3 c (.lst (ys ++ List.replicate rows.length (V.ref z)))) c = some (.lst (ys ++ List.replicate rows.length (V.ref z))) := upd_same
    generalize upd G3 c (.lst (ys ++ List.replicate rows.length (V.ref z))) = G4 at *
    have sm := ((sm1.trans sm2).trans sm3).trans sm4
    have Lc : LRow K G4 c (target ++ List.replicate rows.length 0) := by
      refine ⟨_, e4, ?_⟩
      rw [List.map_append]
      exact all_app (ImAll.mono (tk_same sm) _ hys) (all_rep (f := rD) (a := 0) (rat_mk (q := 0) (hz _)) _)
    refine ⟨.ref a, rfl, a, C, dx, _, _, rfl, sm _ _ ea, T.cl, T.a_held, rfl, c, h, _, _, rfl, Lc, hh.same sm, ?_, by rw [ext_length]; omega, left_bd t ht hi, fun p H' sm5 Lp => q p H' (sm.trans sm5) Lp⟩
    rw [ext_length, ht, ← t.all]
    exact t.tame _

abbrev s_Solver_weights : Stmt := inClass (topS 32) 2
theorem sc_Solver_weights : FnScope ["self", "target", "left", "entry"] ["self", "target"] (defScope s_Solver_weights) := ⟨rfl, rfl, rfl, by decide +kernel, rfl, by decide +kernel, by decide +kernel⟩
def sp_weights (K : PySem.W.Frag) (C : Addr) : Sp := fun vs H Q _ => ∃ (a : Addr) (v : V) (rows : List (List Rat)) (target : List Rat) (size : Nat) (s : Int) (E m : Nat), vs = [.ref a, v] ∧ SolvAt K C H a size rows ∧ Task s E m size rows ∧ Im K H v (vD target) ∧ target.length = size ∧ Sc s E target ∧
  (∀ p, first (leftOf rows size target) size = some p → ∀ H', Same H H' → Q .non H') ∧ (first (leftOf rows size target) size = none → ∀ p H', Same H H' → H p = none → Im K H' (.ref p) (vD (((leftOf rows size target).drop size).map fun x => -x)) → Q (.ref p) H')
theorem ok_Solver_weights {f : Addr} {fd : FuncData} {k : Nat} (F : Fun K "weights" "Solver.weights" s_Solver_weights f fd) (T : Tx K mg C){ki : Nat} (M_left_of : Met P w K mg base ki C "left_of" ["self", "target"] (sp_left_of K C)) {kj : Nat} (D_first_place : Def P w K mg base kj "first_place" s_first_place ["entries", "size"] (sp_first_place K)) {kl : Nat} (D_opposite : Def P w K mg base kl "opposite" s_opposite ["one"] (sp_opposite K)) (hk : ki ≤ k) (hj : kj ≤ k) (hl : kl ≤ k) : FnOk P w K mg base CX0 (k + 1) f fd ["self", "target"] (sp_weights K C) := by
  have nd := sc_Solver_weights.nd
  refine F.ok sc_Solver_weights (fun vs H Q E h => ?_) (fun cdv A outer s H vs Q E hr h => ?_)
  · obtain ⟨_, _, _, _, _, _, _, _, rfl, _⟩ := h
    rfl
  · obtain ⟨a, v, rows, target, size, sc, Ec, m, rfl, sv, t, iv, ht, hi, q1, q2⟩ := h
    have l48 := t.l48
    have n48 := t.n48
    refine ⟨_, (pss_cons (ps_set (i := 2) nd rfl (.inl rfl) (pe_met M_left_of T.cl (hr.mono (by omega)) (pv 0) (pa_cons (pv 1) pa_nil)))
      (pss_cons (ps_if (pt_cmp (pc_notN (pe_def D_first_place (hr.mono (by omega)) rfl (pa_cons (pv 2) (pa_cons (kpe_fld K (pv 0)) pa_nil)))))
        (pss_one (ps_ret pe_non))
        pss_nil)
      (pss_one (ps_ret (pe_callTy (kcall_tuple K) (by rfl) T.m_tuple (by decide +kernel) (pa_cons (pe_lc (own := [("entry", 3)]) (g := gName 3) (tt := tYes) rfl nd (kpi_list K (pe_slice sl_list (pv 2) (po_some (kpe_fld K (pv 0))) po_none)) (blkOk_by (by rfl)) (fun _ _ _ _ _ => (pg_name (i := 3) nd rfl (.inl rfl))) (fun _ _ _ _ _ => pts_nil) (fun _ _ _ _ _ => (pe_def D_opposite (hr.mono (by omega)) rfl (pa_cons (pv 3) pa_nil)))) pa_nil)))))), ?_⟩
    obtain ⟨dx, h, ea, hh⟩ := id sv
    refine ⟨.ref a, rfl, a, dx, _, rfl, ea, rfl, v, rfl, a, v, rows, target, size, sc, Ec, m, rfl, sv, t, iv, ht, hi, fun p H1 sm1 L1 => ?_⟩
    have ll := left_length t ht
    refine ⟨.ref p, rfl, .ref a, rfl, a, C, dx, _, _, rfl, sm1 _ _ ea, T.cl, T.a_size, rfl, p, _, size, rfl, L1, by omega, n48, ?_⟩
    cases hf : first (leftOf rows size target) size with
    | some pl =>
      refine ⟨_, rfl, ?_⟩
      exact iteT (q1 pl hf H1 sm1)
    | none =>
      refine ⟨_, rfl, iteF ?_⟩
      obtain ⟨ws, eL, iw⟩ := L1
      have lw : ws.length = size + rows.length := by rw [all_len iw, ll]
      refine ⟨.ref p, rfl, .ref a, rfl, a, C, dx, _, _, rfl, sm1 _ _ ea, T.cl, T.a_size, rfl, size, rfl, p, ws, rfl, .of eL, fun c hc => ?_⟩
      rw [cut_drop (by omega)]
      have sm2 : Same H1 (upd H1 c (.lst (ws.drop size))) := same_new hc
      have ec : (upd H1 c (.lst (ws.drop size))) c = some (.lst (ws.drop size)) := upd_same
      generalize upd H1 c (.lst (ws.drop size)) = G at *
      have iw2 := all_drop (n := size) (ImAll.mono (tk_same sm2) _ iw)
      have lw2 : (ws.drop size).length = rows.length := by rw [List.length_drop]; omega
      refine ⟨c, rfl, ⟨_, .of ec⟩, fun D hD => ?_⟩
      refine lc_all (walk_list (xs := ws.drop size)) (fun j H2 => Same G H2 ∧ ∃ acc, H2 D = some (.lst acc) ∧ ImAll K H2 acc (((((leftOf rows size target).drop size).map fun x => -x).take j).map rD)) ⟨same_new hD, [], upd_same, .nil⟩ (fun j H2 _ z => .of (z.1 _ _ ec)) (fun j x H2 H3 hj z y => ?_) (fun H2 z => ?_)
      · obtain ⟨sm, acc, eD, ia⟩ := z
        obtain ⟨rfl, hx⟩ := y
        obtain ⟨o, ho, io⟩ := all_get iw2 hx
        have lacc : acc.length = j := by rw [all_len ia, List.length_take, List.length_map, List.length_drop]; omega
        refine ⟨rfl, x, rfl, x, o, rfl, Im.mono (tk_same sm) _ io, fun p2 H4 sm4 np i4 => ?_⟩
        have eD4 := sm4 _ _ eD
        refine ⟨acc, eD4, small1000 (by omega), fun c oo ec => ?_, acc ++ [.ref p2], upd_same, ?_⟩
        · rw [upd_ne (ne_of_none ec hD)]
          exact sm4 _ _ (sm _ _ ec)
        · exact all_snoc (ImAll.mono ((tk_same sm4).trans (tk_lst eD4)) _ ia) (by rw [List.getElem?_map, ho]; rfl) (Im.mono (tk_lst eD4) _ i4)
      · obtain ⟨sm, acc, eD, ia⟩ := z
        rw [List.take_of_length_le (by rw [List.length_map, List.length_drop]; omega)] at ia
        have sm0 := (sm1.trans sm2).trans sm
        exact ⟨D, acc, rfl, .inl ⟨.of eD, fun l hl2 => q2 hf l _ (sm0.trans (same_new hl2)) (sm0.free hl2) (.tup (.inl upd_same) (ImAll.mono (tk_new hl2) _ ia))⟩⟩
end
end K42

set_option Elab.async false
set_option linter.all false
set_option maxRecDepth 100000
set_option exponentiation.threshold 20000
namespace K42
open PySem PySem.Spec PyProof.Rows L2 Ly Mt El
section
variable {P : Program} {w : World} {K : PySem.W.Frag} {mg : Str → Option Value} {base : Heap} {C : Addr}

abbrev s_Solver_marks : Stmt := inClass (topS 32) 3
theorem sc_Solver_marks : FnScope ["self", "target", "left", "place", "found", "pivot", "row"] ["self", "target"] (defScope s_Solver_marks) := ⟨rfl, rfl, rfl, by decide +kernel, rfl, by decide +kernel, by decide +kernel⟩
def sp_marks (K : PySem.W.Frag) (C : Addr) : Sp := fun vs H Q _ => ∃ (a : Addr) (v : V) (rows : List (List Rat)) (target : List Rat) (size : Nat) (s : Int) (E m pl : Nat), vs = [.ref a, v] ∧ SolvAt K C H a size rows ∧ Task s E m size rows ∧ Im K H v (vD target) ∧ target.length = size ∧ Sc s E target ∧
  first (leftOf rows size target) size = some pl ∧ ∀ p H', Same H H' → H p = none → Im K H' (.ref p) (vD (marksL (leftOf rows size target) pl size (solved rows size).reverse)) → Q (.ref p) H'
theorem ok_Solver_marks {f : Addr} {fd : FuncData} {k : Nat} (F : Fun K "marks" "Solver.marks" s_Solver_marks f fd) (T : Tx K mg C){ki : Nat} (M_left_of : Met P w K mg base ki C "left_of" ["self", "target"] (sp_left_of K C)) {kj : Nat} (D_first_place : Def P w K mg base kj "first_place" s_first_place ["entries", "size"] (sp_first_place K)) {kl : Nat} (D_over : Def P w K mg base kl "over" s_over ["one", "other"] (sp_over K)) {kn : Nat} (D_opposite : Def P w K mg base kn "opposite" s_opposite ["one"] (sp_opposite K)) (hk : ki ≤ k) (hj : kj ≤ k) (hl : kl ≤ k) (hn : kn ≤ k) : FnOk P w K mg base CX0 (k + 1) f fd ["self", "target"] (sp_marks K C) := by
  have nd := sc_Solver_marks.nd
  refine F.ok sc_Solver_marks (fun vs H Q E h => ?_) (fun cdv A outer s H vs Q E hr h => ?_)
  · obtain ⟨_, _, _, _, _, _, _, _, _, rfl, _⟩ := h
    rfl
  · obtain ⟨a, v, rows, target, size, sc, Ec, m, pl, rfl, sv, t, iv, ht, hi, hf, q⟩ := h
    have l48 := t.l48
    have n48 := t.n48
    obtain ⟨z, gz, hz⟩ := T.zero
    have g_ZERO : ∃ u, mg "ZERO" = some u ∧ L2.RelV (.ref z) u := ⟨_, gz, rfl⟩
    obtain ⟨o, go, ho⟩ := T.one
    have g_ONE : ∃ u, mg "ONE" = some u ∧ L2.RelV (.ref o) u := ⟨_, go, rfl⟩
    refine ⟨_, (pss_cons (ps_set (i := 2) nd rfl (.inl rfl) (pe_met M_left_of T.cl (hr.mono (by omega)) (pv 0) (pa_cons (pv 1) pa_nil)))
      (pss_cons (ps_set (i := 3) nd rfl (.inl rfl) (pe_def D_first_place (hr.mono (by omega)) rfl (pa_cons (pv 2) (pa_cons (kpe_fld K (pv 0)) pa_nil))))
      (pss_cons (ps_set (i := 4) nd rfl (.inl rfl) (pe_op op_rep (pe_lst (pa_cons (pe_gv rfl g_ZERO) pa_nil)) (kpe_fld K (pv 0))))
      (pss_cons (ps_asg (pe_def D_over (hr.mono (by omega)) rfl (pa_cons (pe_gv rfl g_ONE) (pa_cons (pe_ix (kix_list K) (pv 2) (pv 3) (fun _ _ => rfl)) pa_nil))) (pg_sub (pv 4) (pv 3) set_list))
      (pss_cons (ps_for PassesOwn.never rfl (kpi_list K (kpe_fld K (pv 0))) (kpg_tup K (n := 2) rfl (pgs_cons (pg_name (i := 5) nd rfl (.inl rfl)) (pgs_cons (pg_name (i := 6) nd rfl (.inl rfl)) pgs_nil)))
        (pss_one (ps_asg (pe_def D_over (hr.mono (by omega)) rfl (pa_cons (pe_def D_opposite (hr.mono (by omega)) rfl (pa_cons (pe_ix (kix_list K) (pv 6) (pv 3) (fun _ _ => rfl)) pa_nil)) (pa_cons (pe_ix (kix_list K) (pv 2) (pv 3) (fun _ _ => rfl)) pa_nil))) (pg_sub (pv 4) (pv 5) set_list))))
      (pss_one (ps_ret (pe_callTy (kcall_tuple K) (by rfl) T.m_tuple (by decide +kernel) (pa_cons (pv 4) pa_nil))))))))), ?_⟩
    obtain ⟨dx, h, ea, hh⟩ := id sv
    refine ⟨.ref a, rfl, a, dx, _, rfl, ea, rfl, v, rfl, a, v, rows, target, size, sc, Ec, m, rfl, sv, t, iv, ht, hi, fun p H1 sm1 L1 => ?_⟩
    have ll := left_length t ht
    have lb := left_bd' t ht hi
    have tms : Tame (solved rows size) (size + rows.length) := by rw [← t.all]; exact t.tame _
    obtain ⟨pn, p0⟩ := first_some hf
    refine ⟨.ref p, rfl, .ref a, rfl, a, C, dx, _, _, rfl, sm1 _ _ ea, T.cl, T.a_size, rfl, p, _, size, rfl, L1, by omega, n48, ?_⟩
    rw [hf]
    obtain ⟨ws, eL, iw⟩ := id L1
    have lw : ws.length = size + rows.length := by rw [all_len iw, ll]
    obtain ⟨u, hu, iu⟩ := all_at iw (get_fn (show pl < (leftOf rows size target).length by omega))
    refine ⟨by show 1 ≤ sizeLine; decide, fun l2 hl2 => ?_⟩
    have sm2 : Same H1 (upd H1 l2 (.lst [.ref z])) := same_new hl2
    have el2 : (upd H1 l2 (.lst [.ref z])) l2 = some (.lst [.ref z]) := upd_same
    generalize upd H1 l2 (.lst [.ref z]) = G2 at *
    refine ⟨.ref a, rfl, a, C, dx, _, _, rfl, sm2 _ _ (sm1 _ _ ea), T.cl, T.a_size, rfl, l2, (size : Nat), _, rfl, rfl, el2, by omega, by omega, ?_, fun c hc => ?_⟩
    · show 1 * ((size : Int)).toNat ≤ sizeLine
      have := small1000 (show size ≤ 1000 by omega)
      rw [Nat.one_mul]
      show size ≤ sizeLine
      omega
    have sm3 : Same G2 (upd G2 c (.lst (List.replicate ((size : Int)).toNat [V.ref z]).flatten)) := same_new hc
    have ec : (upd G2 c (.lst (List.replicate ((size : Int)).toNat [V.ref z]).flatten)) c = some (.lst (List.replicate size (V.ref z))) := by
      rw [upd_same]
      show some (HO.lst (List.replicate size [V.ref z]).flatten) = _
      rw [flat1]
    generalize upd G2 c (.lst (List.replicate ((size : Int)).toNat [V.ref z]).flatten) = G3 at *
    have sm12 := sm1.trans sm2
    have nc : H1 c = none := sm2.free hc
    have sm03 : Same H G3 := sm12.trans sm3
    refine ⟨.ref p, rfl, .int pl, rfl, p, ws, _, _, rfl, rfl, .of (sm3 _ _ (sm2 _ _ eL)), atI_nat hu, .ref o, u, 1, fn (leftOf rows size target) pl, rfl, rat_mk (q := 1) (ho _), Im.mono (tk_same (sm2.trans sm3)) _ iu, ⟨by decide, by decide⟩, (lb pl).mono (by decide) (by decide), p0, fun p4 H4 sm4 np4 i4 => ?_⟩
    have ec4 := sm4 _ _ ec
    refine ⟨.ref c, rfl, .int pl, rfl, c, _, pl, pl, rfl, rfl, ec4, ixN_nat (by rw [List.length_replicate]; omega), ?_⟩
    have fr : ∀ {H' : Hp} {o : HO}, Same H1 H' → Same H1 (upd H' c o) := fun s b o e => by rw [upd_ne (ne_of_none e nc)]; exact s _ _ e
    have L5 : LRow K (upd H4 c (.lst ((List.replicate size (V.ref z)).set pl (.ref p4)))) c (marksL (leftOf rows size target) pl size []) := by
      refine ⟨_, upd_same, ?_⟩
      rw [← marks_nil]
      exact ImAll.mono (tk_lst ec4) _ (all_set i4 (all_rep (f := rD) (a := 0) (rat_mk (q := 0) (hz _)) size))
    have sm5 : Same H1 (upd H4 c (.lst ((List.replicate size (V.ref z)).set pl (.ref p4)))) := fr ((sm2.trans sm3).trans sm4)
    generalize upd H4 c (.lst ((List.replicate size (V.ref z)).set pl (.ref p4))) = G5 at *
    have h5 := (hh.same sm1)
    obtain ⟨hs, eh, lh, gh⟩ := h5
    refine ⟨.ref a, rfl, a, C, dx, _, _, rfl, sm5 _ _ (sm1 _ _ ea), T.cl, T.a_held, rfl, h, rfl, ⟨hs, .of (sm5 _ _ eh)⟩, ?_⟩
    refine for_it (walk_list (xs := hs)) (fun i σ H2 => ∃ y5 y6, σ = [some (.ref a), some v, some (.ref p), some (.int pl), some (.ref c), y5, y6] ∧ Same H1 H2 ∧ LRow K H2 c (marksL (leftOf rows size target) pl size ((solved rows size).take i).reverse)) ⟨none, none, rfl, sm5, L5⟩ (fun i σ H2 _ ⟨_, _, _, b, _⟩ => .of (b _ _ eh)) ?_ ?_
    · rintro i x σ H2 H3 hi2 ⟨y5, y6, rfl, b, Lc⟩ ⟨rfl, hx⟩
      have hi' : i < (solved rows size).length := by omega
      have hg : (solved rows size)[i]? = some (((solved rows size)[i]).1, ((solved rows size)[i]).2) := List.getElem?_eq_getElem hi'
      have tmi := tms _ (List.getElem_mem hi')
      have piv : ((solved rows size)[i]).1 < size := by
        obtain ⟨taken, R⟩ := t.ok.whole
        exact R.red.piv (((solved rows size)[i]).1, fn ((solved rows size)[i]).2) (List.mem_map.mpr ⟨_, List.getElem_mem hi', rfl⟩)
      generalize ((solved rows size)[i]).1 = pv at *
      generalize ((solved rows size)[i]).2 = rw' at *
      obtain ⟨a2, b2, k1, k2, k3, _⟩ := gh i _ _ hg
      rw [k1] at hx
      obtain rfl := Option.some.inj hx
      obtain ⟨us, eb, ius⟩ := k3.same b
      obtain ⟨u2, hu2, iu2⟩ := all_at ius (get_fn (show pl < rw'.length by have := tmi.1; omega))
      refine ⟨a2, _, rfl, .of (b _ _ k2), rfl, .int pv, _, rfl, .ref b2, _, rfl, rfl, ?_⟩
      refine ⟨.ref b2, rfl, .int pl, rfl, b2, us, _, _, rfl, rfl, .of eb, atI_nat hu2, u2, _, rfl, iu2, fun p6 H6 sm6 np6 i6 => ?_⟩
      have b6 := b.trans sm6
      refine ⟨.ref p, rfl, .int pl, rfl, p, ws, _, _, rfl, rfl, .of (b6 _ _ eL), atI_nat hu, .ref p6, u, _, _, rfl, i6, Im.mono (tk_same b6) _ iu, (bd_neg (tmi.2.2 pl)).mono (by decide) (by decide), (lb pl).mono (by decide) (by decide), p0, fun p7 H7 sm7 np7 i7 => ?_⟩
      obtain ⟨vs', ev, ivs⟩ := Lc.same (sm6.trans sm7)
      have lv : vs'.length = size := by rw [all_len ivs]; unfold marksL; simp
      refine ⟨.ref c, rfl, .int pv, rfl, c, vs', pv, pv, rfl, rfl, ev, ixN_nat (by rw [lv]; exact piv), _, _, rfl, fr (b6.trans sm7), _, upd_same, ?_⟩
      rw [List.take_add_one, hg]
      show ImAll K _ _ ((marksL (leftOf rows size target) pl size ((solved rows size).take i ++ [(pv, rw')]).reverse).map rD)
      rw [List.reverse_append]
      show ImAll K _ _ ((marksL (leftOf rows size target) pl size ((pv, rw') :: ((solved rows size).take i).reverse)).map rD)
      rw [← marks_cons]
      exact ImAll.mono (tk_lst ev) _ (all_set i7 ivs)
    · rintro σ H2 ⟨y5, y6, rfl, b, vs', ev, ivs⟩
      rw [List.take_of_length_le (by omega)] at ivs
      have sm0 := sm1.trans b
      exact ⟨.ref c, rfl, c, vs', rfl, .inl ⟨.of ev, fun l hl2 => q l _ (sm0.trans (same_new hl2)) (sm0.free hl2) (.tup (.inl upd_same) (ImAll.mono (tk_new hl2) _ ivs))⟩⟩

abbrev s_combined : Stmt := topS 33
theorem sc_combined : FnScope ["weights", "rows", "size", "total", "weight", "row", "one", "two"] ["weights", "rows", "size"] (defScope s_combined) := ⟨rfl, rfl, rfl, by decide +kernel, rfl, by decide +kernel, by decide +kernel⟩
def sp_combined (K : PySem.W.Frag) : Sp := fun vs H Q _ => ∃ v1 v2 ws B n, vs = [v1, v2, .int (n : Nat)] ∧ Im K H v1 (vD ws) ∧ Im K H v2 (mD B) ∧ ws.length = B.length ∧ (∀ r ∈ B, r.length = n) ∧ n ≤ 48 ∧ B.length ≤ 48 ∧
  (∀ x ∈ ws, Bd 2900 2900 x) ∧ (∀ r ∈ B, ∀ y ∈ r, Bd 2900 2900 y) ∧ (∀ i, ∀ o ∈ vm n (ws.take i) (B.take i), Bd 2900 2900 o) ∧ ∀ p H', Same H H' → H p = none → Im K H' (.ref p) (vD (vm n ws B)) → Q (.ref p) H'
theorem ok_combined {f : Addr} {fd : FuncData} {k : Nat} (F : Fun K "combined" "combined" s_combined f fd) (T : Tx K mg C){ki : Nat} (D_plus : Def P w K mg base ki "plus" s_plus ["one", "other"] (sp_plus K)) (D_times : Def P w K mg base ki "times" s_times ["one", "other"] (sp_times K)) (hk : ki ≤ k) : FnOk P w K mg base CX0 (k + 1) f fd ["weights", "rows", "size"] (sp_combined K) := by
  have nd := sc_combined.nd
  refine F.ok sc_combined (fun vs H Q E h => ?_) (fun cdv A outer s H vs Q E hr h => ?_)
  · obtain ⟨_, _, _, _, _, rfl, _⟩ := h
    rfl
  · obtain ⟨v1, v2, ws, B, n, rfl, hv1, hv2, hl, hn, h48, hB48, bw, bB, bV, q⟩ := h
    obtain ⟨a, xs, rfl, ha, hxs⟩ := vec_inv hv1
    obtain ⟨b, ys, rfl, hb, hys⟩ := mat_inv hv2
    have lx : xs.length = ws.length := all_len hxs
    have ly : ys.length = B.length := all_len hys
    obtain ⟨z, gz, hz⟩ := T.zero
    have g_ZERO : ∃ u, mg "ZERO" = some u ∧ L2.RelV (.ref z) u := ⟨_, gz, rfl⟩
    refine ⟨_, (pss_cons (ps_set (i := 3) nd rfl (.inl rfl) (pe_op op_rep (pe_lst (pa_cons (pe_gv rfl g_ZERO) pa_nil)) (pv 2)))
      (pss_cons (ps_for PassesOwn.never rfl (kpi_zip K (by rfl) T.m_zip (pa_cons (pv 0) (pa_cons (pv 1) pa_nil))) (kpg_tup K (n := 2) rfl (pgs_cons (pg_name (i := 4) nd rfl (.inr rfl)) (pgs_cons (pg_name (i := 5) nd rfl (.inl rfl)) pgs_nil)))
        (pss_one (ps_if (pt_cmpR op_ne (pe_ix (kix_tup K) (pv 4) pe_int (fun _ _ => rfl)) pe_int (nomark _))
          (pss_one (ps_setLc (i := 3) (own := [("one", 6), ("two", 7)]) (g := _) (tt := tYes) rfl nd rfl rfl (sw_true rfl rfl rfl (by decide +kernel)) (kpi_zipM K (by rfl) T.m_zip (pa_cons (pv 3) (pa_cons (pv 5) pa_nil))) (blkOk_by (by rfl)) (fun _ _ _ _ _ => (kpg_tup K (n := 2) rfl (pgs_cons (pg_name (i := 6) nd rfl (.inl rfl)) (pgs_cons (pg_name (i := 7) nd rfl (.inl rfl)) pgs_nil)))) (fun _ _ _ _ _ => pts_nil) (fun _ _ _ _ _ => (pe_ifExp (pt_cmpR op_eq (pe_ix (kix_tup K) (pv 7) pe_int (fun _ _ => rfl)) pe_int (nomark _)) (pv 6) (pe_def D_plus (hr.mono (by omega)) rfl (pa_cons (pv 6) (pa_cons (pe_def D_times (hr.mono (by omega)) rfl (pa_cons (pv 4) (pa_cons (pv 7) pa_nil))) pa_nil)))))))
          pss_nil)))
      (pss_one (ps_ret (pe_callTy (kcall_tuple K) (by rfl) T.m_tuple (by decide +kernel) (pa_cons (pv 3) pa_nil)))))), ?_⟩
    refine ⟨by show 1 ≤ sizeLine; decide, fun l hl1 => ⟨.int n, rfl, l, n, _, rfl, rfl, upd_same, by omega, by omega, ?_, fun p hp => ?_⟩⟩
    · show 1 * ((n : Int)).toNat ≤ sizeLine
      have := small1000 (show n ≤ 1000 by omega)
      rw [Nat.one_mul]
      show n ≤ sizeLine
      omega
    have smp : Same H (upd (upd H l (.lst [.ref z])) p (.lst (List.replicate ((n : Int)).toNat [V.ref z]).flatten)) := (same_new hl1).trans (same_new hp)
    have np : H p = none := (same_new hl1).free hp
    refine ⟨.ref a, rfl, .ref b, rfl, a, b, xs, ys, rfl, .inr ⟨(ha.mono (tk_same smp)).sq, (hb.mono (tk_same smp)).sq, ?_⟩⟩
    refine for_it (walk_zipT (xs := xs) (ys := ys) (by omega)) (fun i σ H2 => ∃ p y4 y5 y6 y7 vs', σ = [some (.ref a), some (.ref b), some (.int n), some (.ref p), y4, y5, y6, y7] ∧ Same H H2 ∧ H p = none ∧ H2 p = some (.lst vs') ∧ ImAll K H2 vs' ((vm n (ws.take i) (B.take i)).map rD)) ?_ ?_ ?_ ?_
    · refine ⟨p, none, none, none, none, _, rfl, smp, np, upd_same, ?_⟩
      show ImAll K _ (List.replicate n [V.ref z]).flatten ((List.replicate n (0 : Rat)).map rD)
      rw [flat1 n]
      exact all_rep (f := rD) (a := 0) (rat_mk (q := 0) (hz _)) n
    · rintro i σ H2 hi ⟨p', y4, y5, y6, y7, vs', rfl, sm, _, _, _⟩
      exact ⟨(ha.mono (tk_same sm)).sq, (hb.mono (tk_same sm)).sq⟩
    · rintro i x σ H2 H3 hi ⟨p', y4, y5, y6, y7, vs', rfl, sm, np', ep, im⟩ ⟨T1, x1, x2, rfl, nT, rfl, g1, g2⟩
      obtain ⟨wi, hwi, iw⟩ := all_get hxs g1
      obtain ⟨ri, hri, ir⟩ := all_get hys g2
      have sm3 : Same H (upd H2 T1 (.tup [x1, x2])) := sm.trans (same_new nT)
      have lr : ri.length = n := hn ri (List.mem_of_getElem? hri)
      have lacc : (vm n (ws.take i) (B.take i)).length = n := vm_length fun b hb => hn b (List.mem_of_mem_take hb)
      have hstep := vm_step (n := n) hl hwi hri
      have bacc := bV i
      obtain ⟨aw, rfl, haw⟩ := rat_inv (Im.mono (tk_same sm3) _ iw)
      obtain ⟨ar, rs, rfl, har, hrs⟩ := vec_inv (Im.mono (tk_same sm3) _ ir)
      have lrs : rs.length = n := by rw [all_len hrs]; exact lr
      have lvs : vs'.length = n := by rw [all_len im]; exact lacc
      refine ⟨T1, _, rfl, .of upd_same, rfl, .ref aw, _, rfl, .ref ar, _, rfl, rfl, ?_⟩
      refine ⟨.ref aw, rfl, aw, _, 0, _, rfl, rfl, haw.sq, atI_nat (j := 0) rfl, rfl, _, rfl, ?_⟩
      have ep3 : (upd H2 T1 (.tup [.ref aw, .ref ar])) p' = some (.lst vs') := by rw [upd_ne (ne_of_none ep nT)]; exact ep
      have im3 : ImAll K (upd H2 T1 (.tup [.ref aw, .ref ar])) vs' ((vm n (ws.take i) (B.take i)).map rD) := ImAll.mono (tk_new nT) _ im
      generalize hG : upd H2 T1 (.tup [.ref aw, .ref ar]) = G at *
      by_cases h0 : wi.num = 0
      · have hw0 : wi = 0 := num_zero h0
        have e : (V.int wi.num) = V.int 0 := by rw [h0]
        rw [decide_eq_true e]
        refine iteF ⟨p', some (.ref aw), some (.ref ar), y6, y7, vs', rfl, sm3, np', ep3, ?_⟩
        rw [hstep, hw0, addS_zero (by rw [lr, lacc])]
        exact im3
      · have e : ¬ (V.int wi.num) = V.int 0 := fun z => h0 (V.int.inj z)
        rw [decide_eq_false e]
        refine iteT ⟨.ref p', rfl, .ref ar, rfl, p', ar, vs', rs, rfl, .of ep3, har.sq, fun D hD => ?_⟩
        refine lc_all (walk_zipM (xs := vs') (ys := rs) (by omega)) (fun j H4 => Same G H4 ∧ ∃ acc, H4 D = some (.lst acc) ∧ ImAll K H4 acc (((addS (vm n (ws.take i) (B.take i)) wi ri).take j).map rD)) ⟨same_new hD, [], upd_same, .nil⟩ (fun j H4 _ z => ⟨.of (z.1 _ _ ep3), (har.mono (tk_same z.1)).sq⟩) (fun j x H4 H5 hj z y => ?_) (fun H4 z => ?_)
        · obtain ⟨sm4, acc, eD, ia⟩ := z
          obtain ⟨T2, u1, u2, rfl, nT2, rfl, k1, k2⟩ := y
          obtain ⟨o, ho, io⟩ := all_get im3 k1
          obtain ⟨t, ht, it⟩ := all_get hrs k2
          have sm5 : Same G (upd H4 T2 (.tup [u1, u2])) := sm4.trans (same_new nT2)
          have io5 := Im.mono (tk_same sm5) _ io
          have it5 := Im.mono (tk_same sm5) _ it
          have iw5 : Im K (upd H4 T2 (.tup [u1, u2])) (.ref aw) (rD wi) := rat_mk (haw.mono (tk_same sm5))
          have eD5 : (upd H4 T2 (.tup [u1, u2])) D = some (.lst acc) := by rw [upd_ne (ne_of_none eD nT2)]; exact eD
          have ia5 := ImAll.mono (tk_new (o := .tup [u1, u2]) nT2) _ ia
          have hget : (addS (vm n (ws.take i) (B.take i)) wi ri)[j]? = some (o + wi * t) := addS_get ho ht
          have lacc' : acc.length = j := by
            rw [all_len ia, List.length_take, addS_length (by rw [lr, lacc]), lacc]; omega
          obtain ⟨a2, rfl, ha2⟩ := rat_inv it5
          refine ⟨T2, _, rfl, .of upd_same, rfl, u1, _, rfl, .ref a2, _, rfl, rfl, rfl, ?_⟩
          refine ⟨.ref a2, rfl, a2, _, 0, _, rfl, rfl, ha2.sq, atI_nat (j := 0) rfl, rfl, _, rfl, ?_⟩
          generalize hG5 : upd H4 T2 (.tup [u1, V.ref a2]) = G5 at *
          have fin : ∀ (v : V) (H6 : Hp), Same G5 H6 → Im K H6 v (rD (o + wi * t)) → ∃ acc, H6 D = some (.lst acc) ∧ acc.length < sizeLine ∧ Same G (upd H6 D (.lst (acc ++ [v]))) ∧ ∃ acc', (upd H6 D (.lst (acc ++ [v]))) D = some (.lst acc') ∧ ImAll K (upd H6 D (.lst (acc ++ [v]))) acc' (((addS (vm n (ws.take i) (B.take i)) wi ri).take (j + 1)).map rD) := by
            intro v H6 sm6 iv
            have eD6 := sm6 _ _ eD5
            refine ⟨acc, eD6, small1000 (by omega), fun c oo ec => ?_, acc ++ [v], upd_same, ?_⟩
            · rw [upd_ne (ne_of_none ec hD)]
              exact sm6 _ _ (sm5 _ _ ec)
            · exact all_snoc (ImAll.mono ((tk_same sm6).trans (tk_lst eD6)) _ ia5) hget (Im.mono (tk_lst eD6) _ iv)
          by_cases t0 : t.num = 0
          · rw [decide_eq_true (show V.int t.num = V.int 0 by rw [t0])]
            refine iteT ⟨u1, rfl, fin u1 G5 (Same.refl _) ?_⟩
            rw [num_zero t0, Rat.mul_zero, Rat.add_zero]
            exact io5
          · rw [decide_eq_false (show ¬ V.int t.num = V.int 0 from fun z => t0 (V.int.inj z))]
            have bt : Bd 2900 2900 t := bB ri (List.mem_of_getElem? hri) t (List.mem_of_getElem? ht)
            have bwi : Bd 2900 2900 wi := bw wi (List.mem_of_getElem? hwi)
            have bo : Bd 2900 2900 o := bacc o (List.mem_of_getElem? ho)
            refine iteF ⟨u1, rfl, .ref aw, rfl, .ref a2, rfl, _, _, wi, t, rfl, iw5, it5, bwi.mono (by decide) (by decide), bt.mono (by decide) (by decide), fun p2 H6 sm6 np2 i6 => ?_⟩
            refine ⟨u1, .ref p2, o, wi * t, rfl, Im.mono (tk_same sm6) _ io5, i6, bo.mono (by decide) (by decide), (Bd.mul bwi bt).mono (by decide) (by decide), fun p3 H7 sm7 np3 i7 => ?_⟩
            exact fin _ _ (sm6.trans sm7) i7
        · obtain ⟨sm4, acc, eD, ia⟩ := z
          refine ⟨D, some (.ref aw), some (.ref ar), y6, y7, acc, rfl, sm3.trans sm4, sm3.free hD, eD, ?_⟩
          rw [hstep]
          rw [List.take_of_length_le (by rw [addS_length (by rw [lr, lacc]), lacc]; omega)] at ia
          exact ia
    · rintro σ H2 ⟨p', y4, y5, y6, y7, vs', rfl, sm, np', ep, im⟩
      refine ⟨.ref p', rfl, p', vs', rfl, .inl ⟨.of ep, fun l hl2 => ?_⟩⟩
      have e1 : ws.take xs.length = ws := List.take_of_length_le (by omega)
      have e2 : B.take xs.length = B := List.take_of_length_le (by omega)
      rw [e1, e2] at im
      exact q l _ (sm.trans (same_new hl2)) (sm.free hl2) (.tup (.inl upd_same) (ImAll.mono (tk_new hl2) _ im))

abbrev s_multiplied : Stmt := topS 34
theorem sc_multiplied : FnScope ["one", "other", "size", "row"] ["one", "other", "size"] (defScope s_multiplied) := ⟨rfl, rfl, rfl, by decide +kernel, rfl, by decide +kernel, by decide +kernel⟩
/-- matrices that fit: A times B, whose rows have n entries -/
structure Fit (A B : List (List Rat)) (n : Nat) : Prop where
  rowsA : ∀ r ∈ A, r.length = B.length
  rowsB : ∀ r ∈ B, r.length = n
  lA : A.length ≤ 48
  lB : B.length ≤ 48
  ln : n ≤ 48
  bA : ∀ r ∈ A, ∀ y ∈ r, Bd 2900 2900 y
  bB : ∀ r ∈ B, ∀ y ∈ r, Bd 2900 2900 y
  bV : ∀ r ∈ A, ∀ i, ∀ o ∈ vm n (r.take i) (B.take i), Bd 2900 2900 o
def sp_multiplied (K : PySem.W.Frag) : Sp := fun vs H Q _ => ∃ v1 v2 A B n, vs = [v1, v2, .int (n : Nat)] ∧ Im K H v1 (mD A) ∧ Im K H v2 (mD B) ∧ Fit A B n ∧ ∀ p H', Same H H' → H p = none → Im K H' (.ref p) (mD (mm n A B)) → Q (.ref p) H'
theorem ok_multiplied {f : Addr} {fd : FuncData} {k : Nat} (F : Fun K "multiplied" "multiplied" s_multiplied f fd) (T : Tx K mg C){ki : Nat} (D_combined : Def P w K mg base ki "combined" s_combined ["weights", "rows", "size"] (sp_combined K)) (hk : ki ≤ k) : FnOk P w K mg base CX0 (k + 1) f fd ["one", "other", "size"] (sp_multiplied K) := by
  have nd := sc_multiplied.nd
  refine F.ok sc_multiplied (fun vs H Q E h => ?_) (fun cdv A outer s H vs Q E hr h => ?_)
  · obtain ⟨_, _, _, _, _, rfl, _⟩ := h
    rfl
  · obtain ⟨v1, v2, M, B, n, rfl, hv1, hv2, ft, q⟩ := h
    obtain ⟨a, xs, rfl, ha, hxs⟩ := mat_inv hv1
    have lx : xs.length = M.length := all_len hxs
    refine ⟨_, (pss_one (ps_ret (pe_callTy (kcall_tuple K) (by rfl) T.m_tuple (by decide +kernel) (pa_cons (pe_lc (own := [("row", 3)]) (g := gName 3) (tt := tYes) rfl nd (kpi_tup K (pv 0)) (blkOk_by (by rfl)) (fun _ _ _ _ _ => (pg_name (i := 3) nd rfl (.inl rfl))) (fun _ _ _ _ _ => pts_nil) (fun _ _ _ _ _ => (pe_def D_combined (hr.mono (by omega)) rfl (pa_cons (pv 3) (pa_cons (pv 1) (pa_cons (pv 2) pa_nil)))))) pa_nil)))), ?_⟩
    refine ⟨.ref a, rfl, a, rfl, ⟨xs, ha.sq⟩, fun D hD => ?_⟩
    refine lc_all (walk_tup (xs := xs)) (fun i H2 => Same H H2 ∧ ∃ acc, H2 D = some (.lst acc) ∧ ImAll K H2 acc (((mm n M B).take i).map vD)) ⟨same_new hD, [], upd_same, .nil⟩ (fun i H2 _ z => (ha.mono (tk_same z.1)).sq) (fun i x H2 H3 hi z y => ?_) (fun H2 z => ?_)
    · obtain ⟨sm, acc, eD, ia⟩ := z
      obtain ⟨rfl, hx⟩ := y
      obtain ⟨r, hr', iq⟩ := all_get hxs hx
      have mr := List.mem_of_getElem? hr'
      have hget : (mm n M B)[i]? = some (vm n r B) := by
        unfold mm; rw [List.getElem?_map, hr']; rfl
      refine ⟨rfl, x, rfl, v2, rfl, .int n, rfl, x, v2, r, B, n, rfl, Im.mono (tk_same sm) _ iq, Im.mono (tk_same sm) _ hv2, ft.rowsA r mr, ft.rowsB, ft.ln, ft.lB, ft.bA r mr, ft.bB, ft.bV r mr, fun p H4 sm4 np ip => ?_⟩
      have lacc : acc.length = i := by
        rw [all_len ia, List.length_take]; unfold mm; rw [List.length_map]; omega
      have lM := ft.lA
      refine ⟨acc, sm4 _ _ eD, small1000 (by omega), fun b o e => ?_, acc ++ [.ref p], upd_same, ?_⟩
      · rw [upd_ne (ne_of_none e hD)]
        exact sm4 _ _ (sm _ _ e)
      · exact all_snoc (ImAll.mono ((tk_same sm4).trans (tk_lst (sm4 _ _ eD))) _ ia) hget (Im.mono (tk_lst (sm4 _ _ eD)) _ ip)
    · obtain ⟨sm, acc, eD, ia⟩ := z
      rw [List.take_of_length_le (by unfold mm; rw [List.length_map]; omega)] at ia
      exact ⟨D, acc, rfl, .inl ⟨.of eD, fun l hl2 => q l _ (sm.trans (same_new hl2)) (sm.free hl2) (.tup (.inl upd_same) (ImAll.mono (tk_new hl2) _ ia))⟩⟩
end
end K42

set_option Elab.async false
set_option linter.all false
set_option maxRecDepth 100000
set_option exponentiation.threshold 20000
namespace K42
open PySem PySem.Spec PyProof.Rows L2 Ly Mt El
/-- where the errors' classes stand -/
structure Er where
  (v m u s t : Addr)
def veB : List Value := [.type "ValueError", .type "Exception", .type "BaseException", .type "object"]
/-- an error's class -/
structure ErC (K : PySem.W.Frag) (mg : Str → Option Value) (x : Str) (c : Addr) : Prop where
  g : mg x = some (.ref c)
  x : PySem.W.excIn K c [.type "ValueError", .type "Exception", .type "BaseException", .type "object"] "ValueError.__new__" = true
  k : PySem.W.keepIn K (.ref c) = true
  b : PySem.W.subIn K (.ref c) (.type "BaseException") = some true
  t : PySem.W.typeIn K (.ref c) = some (.type "type")
structure Tr (K : PySem.W.Frag) (mg : Str → Option Value) (er : Er) : Prop where
  g_BadVector : mg "BadVector" = some (.ref er.v)
  x_BadVector : PySem.W.excIn K er.v [.type "ValueError", .type "Exception", .type "BaseException", .type "object"] "ValueError.__new__" = true
  k_BadVector : PySem.W.keepIn K (.ref er.v) = true
  b_BadVector : PySem.W.subIn K (.ref er.v) (.type "BaseException") = some true
  t_BadVector : PySem.W.typeIn K (.ref er.v) = some (.type "type")
  g_BadMatrix : mg "BadMatrix" = some (.ref er.m)
  x_BadMatrix : PySem.W.excIn K er.m [.type "ValueError", .type "Exception", .type "BaseException", .type "object"] "ValueError.__new__" = true
  k_BadMatrix : PySem.W.keepIn K (.ref er.m) = true
  b_BadMatrix : PySem.W.subIn K (.ref er.m) (.type "BaseException") = some true
  t_BadMatrix : PySem.W.typeIn K (.ref er.m) = some (.type "type")
  g_Unlike : mg "Unlike" = some (.ref er.u)
  x_Unlike : PySem.W.excIn K er.u [.type "ValueError", .type "Exception", .type "BaseException", .type "object"] "ValueError.__new__" = true
  k_Unlike : PySem.W.keepIn K (.ref er.u) = true
  b_Unlike : PySem.W.subIn K (.ref er.u) (.type "BaseException") = some true
  t_Unlike : PySem.W.typeIn K (.ref er.u) = some (.type "type")
  g_Singular : mg "Singular" = some (.ref er.s)
  x_Singular : PySem.W.excIn K er.s [.type "ValueError", .type "Exception", .type "BaseException", .type "object"] "ValueError.__new__" = true
  k_Singular : PySem.W.keepIn K (.ref er.s) = true
  b_Singular : PySem.W.subIn K (.ref er.s) (.type "BaseException") = some true
  t_Singular : PySem.W.typeIn K (.ref er.s) = some (.type "type")
  g_TreeError : mg "TreeError" = some (.ref er.t)
  m_ValueError : mg "ValueError" = none
  e_vv : PySem.W.exmOne K (.ref er.v) (.ref er.v) = some true
  e_uv : PySem.W.exmOne K (.ref er.u) (.ref er.v) = some false
  e_uu : PySem.W.exmOne K (.ref er.u) (.ref er.u) = some true
  e_mv : PySem.W.exmOne K (.ref er.m) (.ref er.v) = some false
  e_mu : PySem.W.exmOne K (.ref er.m) (.ref er.u) = some false
  e_mm : PySem.W.exmOne K (.ref er.m) (.ref er.m) = some true
  e_sv : PySem.W.exmOne K (.ref er.s) (.ref er.v) = some false
  e_su : PySem.W.exmOne K (.ref er.s) (.ref er.u) = some false
  e_sm : PySem.W.exmOne K (.ref er.s) (.ref er.m) = some false
  e_ss : PySem.W.exmOne K (.ref er.s) (.ref er.s) = some true
  i_v : ExcC K er.v
  i_u : ExcC K er.u
  i_m : ExcC K er.m
  i_s : ExcC K er.s
  k_v : PySem.W.kitOne K (.ref er.v) (.ref er.t) = some true
  k_u : PySem.W.kitOne K (.ref er.u) (.ref er.t) = some true
  k_m : PySem.W.kitOne K (.ref er.m) (.ref er.t) = some true
  k_s : PySem.W.kitOne K (.ref er.s) (.type "ValueError") = some true
/-! ### judged data as ratios, vectors, matrices -/
theorem ratio_of : ∀ {d : PyData}, jRatio d = true → ∃ q, d = rD q
  | .tuple [.int t, .int b], h => by
    have h2 : (decide (1 ≤ b) && decide (Nat.gcd t.natAbs b.natAbs = 1)) = true := h
    rw [Bool.and_eq_true, decide_eq_true_eq, decide_eq_true_eq] at h2
    obtain ⟨h1, h3⟩ := h2
    have e : ((b.natAbs : Nat) : Int) = b := by omega
    refine ⟨⟨t, b.natAbs, by omega, h3⟩, ?_⟩
    show PyData.tuple [.int t, .int b] = .tuple [.int t, .int ((b.natAbs : Nat) : Int)]
    rw [e]
theorem ratio_ok (q : Rat) : jRatio (rD q) = true := by
  show (decide (1 ≤ (q.den : Int)) && decide (Nat.gcd q.num.natAbs ((q.den : Int)).natAbs = 1)) = true
  rw [Bool.and_eq_true, decide_eq_true_eq, decide_eq_true_eq]
  have := q.den_pos
  exact ⟨by omega, q.reduced⟩
theorem all_of {j : PyData → Bool} {α : Type} {f : α → PyData} (h : ∀ d, j d = true → ∃ x, d = f x) : ∀ {ds : List PyData}, ds.all j = true → ∃ xs : List α, ds = xs.map f
  | [], _ => ⟨[], rfl⟩
  | d :: ds, a => by
    rw [List.all_cons, Bool.and_eq_true] at a
    obtain ⟨x, rfl⟩ := h d a.1
    obtain ⟨xs, rfl⟩ := all_of h a.2
    exact ⟨x :: xs, rfl⟩
theorem vec_of {d : PyData} (h : jVec d = true) : ∃ r : List Rat, d = vD r ∧ r.length ≤ 48 := by
  obtain ⟨ds, rfl⟩ := jVec_tup h
  have h2 : (decide (ds.length ≤ 48) && ds.all jRatio) = true := h
  rw [Bool.and_eq_true, decide_eq_true_eq] at h2
  obtain ⟨r, rfl⟩ := all_of (fun d => ratio_of (d := d)) h2.2
  exact ⟨r, rfl, by simpa using h2.1⟩
theorem vec_ok {r : List Rat} (h : r.length ≤ 48) : jVec (vD r) = true := by
  show (decide ((r.map rD).length ≤ 48) && (r.map rD).all jRatio) = true
  rw [Bool.and_eq_true, decide_eq_true_eq, List.length_map]
  refine ⟨h, List.all_eq_true.mpr fun d hd => ?_⟩
  obtain ⟨q, _, rfl⟩ := List.mem_map.mp hd
  exact ratio_ok q
theorem jMat_tup : ∀ {d : PyData}, jMat d = true → ∃ ds, d = .tuple ds
  | .tuple ds, _ => ⟨ds, rfl⟩
/-- how many entries the rows of a matrix have -/
def width (B : List (List Rat)) : Nat := match B with
  | [] => 0
  | r :: _ => r.length
theorem mat_of {d : PyData} (h : jMat d = true) : ∃ A : List (List Rat), d = mD A ∧ A.length ≤ 48 ∧ (∀ r ∈ A, r.length = width A) ∧ width A ≤ 48 := by
  obtain ⟨ds, rfl⟩ := jMat_tup h
  have h2 : (decide (ds.length ≤ 48) && ds.all jVec && ds.all (fun r => decide (rowLen r = rowLen (ds.getD 0 .none)))) = true := h
  rw [Bool.and_eq_true, Bool.and_eq_true, decide_eq_true_eq] at h2
  obtain ⟨⟨h3, h4⟩, h5⟩ := h2
  have h6 : ∃ A : List (List Rat), ds = A.map vD ∧ ∀ r ∈ A, r.length ≤ 48 := by
    clear h5 h3
    clear h
    induction ds with
    | nil => exact ⟨[], rfl, fun r hr => by simp at hr⟩
    | cons d ds ih =>
      rw [List.all_cons, Bool.and_eq_true] at h4
      obtain ⟨r, rfl, hr⟩ := vec_of h4.1
      obtain ⟨A, rfl, hA⟩ := ih h4.2
      exact ⟨r :: A, rfl, fun x hx => by
        rcases List.mem_cons.mp hx with rfl | hx
        · exact hr
        · exact hA x hx⟩
  obtain ⟨A, rfl, hA⟩ := h6
  refine ⟨A, rfl, by simpa using h3, fun r hr => ?_, ?_⟩
  · have h7 := List.all_eq_true.mp h5 (vD r) (List.mem_map.mpr ⟨r, hr, rfl⟩)
    rw [decide_eq_true_eq] at h7
    cases A with
    | nil => simp at hr
    | cons r0 A =>
      have e1 : rowLen (vD r) = r.length := by show (r.map rD).length = _; rw [List.length_map]
      have e2 : rowLen ((List.map vD (r0 :: A)).getD 0 .none) = r0.length := by show (r0.map rD).length = _; rw [List.length_map]
      rw [e1, e2] at h7
      exact h7
  · cases A with
    | nil => exact Nat.zero_le _
    | cons r0 A => exact hA r0 (List.mem_cons_self ..)
theorem noL_rat (q : Rat) : noL (rD q) = true := by simp [rD, noL, noLs]
theorem noLs_rats : ∀ r : List Rat, noLs (r.map rD) = true
  | [] => by simp [noLs]
  | q :: r => by
    have := noLs_rats r
    have h := noL_rat q
    simp [noLs, h, this]
theorem noL_vec (r : List Rat) : noL (vD r) = true := by simp [vD, noL, noLs_rats]
theorem noLs_vecs : ∀ A : List (List Rat), noLs (A.map vD) = true
  | [] => by simp [noLs]
  | r :: A => by
    have := noLs_vecs A
    have h := noL_vec r
    simp [noLs, h, this]
theorem noL_mat (A : List (List Rat)) : noL (mD A) = true := by simp [mD, noL, noLs_vecs]
/-- rows that are not as long as the other is -/
def misfit (d1 d2 : PyData) : Bool := match d1 with
  | .tuple (r :: _) => decide (rowLen r ≠ rowLen d2)
  | _ => false
theorem mis_as (A : List (List Rat)) (d : PyData) : misfit (mD A) d = match A with
    | [] => false
    | r :: _ => decide (r.length ≠ rowLen d) := by
  cases A with
  | nil => rfl
  | cons r A =>
    show decide ((r.map rD).length ≠ rowLen d) = _
    rw [List.length_map]
section
variable {P : Program} {w : World} {K : PySem.W.Frag} {mg : Str → Option Value} {base : Heap} {C : Addr}

abbrev s_need_vector : Stmt := topS 24
theorem sc_need_vector : FnScope ["thing"] ["thing"] (defScope s_need_vector) := ⟨rfl, rfl, rfl, by decide +kernel, rfl, by decide +kernel, by decide +kernel⟩
def sp_need_vector (K : PySem.W.Frag) (er : Er) : Sp := fun vs H Q E => ∃ v d, vs = [v] ∧ Dp K H v d ∧ ∀ H', Same H H' → if jVec d = true then Q .non H' else E (.ref er.v) none H'
theorem ok_need_vector {f : Addr} {fd : FuncData} {k : Nat} (F : Fun K "need_vector" "need_vector" s_need_vector f fd) (T : Tx K mg C){er : Er} (TE : Tr K mg er) {ki : Nat} (D_is_vector : Def P w K mg base ki "is_vector" s_is_vector ["thing"] (sp_is_vector K)) (hk : ki ≤ k) : FnOk P w K mg base (L2.CX P w) (k + 1) f fd ["thing"] (sp_need_vector K er) := by
  have nd := sc_need_vector.nd
  refine F.okX sc_need_vector (fun vs H Q E h => ?_) (fun cdv A outer s H vs Q E hr h => ?_)
  · obtain ⟨_, _, rfl, _⟩ := h
    rfl
  · obtain ⟨v, d, rfl, hd, q⟩ := h
    refine ⟨_, (pss_one (ps_if (pt_not (pt_val (pe_def D_is_vector (hr.mono (by omega)) rfl (pa_cons (pv 0) pa_nil))))
        (pss_one (ps_raise rfl (takes_of rfl rfl rfl rfl) (pmk_own PySem.F.excBase_ValueError TE.x_BadVector TE.g_BadVector TE.k_BadVector (raises_own TE.b_BadVector TE.t_BadVector) rfl)))
        pss_nil)), ?_⟩
    refine ⟨v, rfl, v, d, rfl, hd, fun H1 sm1 => ⟨jVec d, rfl, ?_⟩⟩
    have q1 := q H1 sm1
    cases hj : jVec d with
    | true =>
      rw [hj] at q1
      rw [if_pos rfl] at q1
      exact iteF q1
    | false =>
      rw [hj, if_neg Bool.false_ne_true] at q1
      exact iteT q1

abbrev s_need_matrix : Stmt := topS 25
theorem sc_need_matrix : FnScope ["thing"] ["thing"] (defScope s_need_matrix) := ⟨rfl, rfl, rfl, by decide +kernel, rfl, by decide +kernel, by decide +kernel⟩
def sp_need_matrix (K : PySem.W.Frag) (er : Er) : Sp := fun vs H Q E => ∃ v d, vs = [v] ∧ Dp K H v d ∧ ∀ H', Same H H' → if jMat d = true then Q .non H' else E (.ref er.m) none H'
theorem ok_need_matrix {f : Addr} {fd : FuncData} {k : Nat} (F : Fun K "need_matrix" "need_matrix" s_need_matrix f fd) (T : Tx K mg C){er : Er} (TE : Tr K mg er) {ki : Nat} (D_is_matrix : Def P w K mg base ki "is_matrix" s_is_matrix ["thing"] (sp_is_matrix K)) (hk : ki ≤ k) : FnOk P w K mg base (L2.CX P w) (k + 1) f fd ["thing"] (sp_need_matrix K er) := by
  have nd := sc_need_matrix.nd
  refine F.okX sc_need_matrix (fun vs H Q E h => ?_) (fun cdv A outer s H vs Q E hr h => ?_)
  · obtain ⟨_, _, rfl, _⟩ := h
    rfl
  · obtain ⟨v, d, rfl, hd, q⟩ := h
    refine ⟨_, (pss_one (ps_if (pt_not (pt_val (pe_def D_is_matrix (hr.mono (by omega)) rfl (pa_cons (pv 0) pa_nil))))
        (pss_one (ps_raise rfl (takes_of rfl rfl rfl rfl) (pmk_own PySem.F.excBase_ValueError TE.x_BadMatrix TE.g_BadMatrix TE.k_BadMatrix (raises_own TE.b_BadMatrix TE.t_BadMatrix) rfl)))
        pss_nil)), ?_⟩
    refine ⟨v, rfl, v, d, rfl, hd, fun H1 sm1 => ⟨jMat d, rfl, ?_⟩⟩
    have q1 := q H1 sm1
    cases hj : jMat d with
    | true =>
      rw [hj] at q1
      rw [if_pos rfl] at q1
      exact iteF q1
    | false =>
      rw [hj, if_neg Bool.false_ne_true] at q1
      exact iteT q1
end
end K42

set_option Elab.async false
set_option linter.all false
set_option maxRecDepth 100000
set_option exponentiation.threshold 20000
namespace K42
open PySem PySem.Spec PyProof.Rows L2 Ly Mt El
/-- a question that made_of can answer -/
def Solv (d1 d2 : PyData) : Prop := ∀ A t, d1 = mD A → d2 = vD t → ∃ s E m, Task s E m t.length A ∧ Sc s E t
/-- a product that can be made -/
def Mult (d1 d2 : PyData) : Prop := ∀ A B, d1 = mD A → d2 = mD B → Fit A B (width B)
theorem vD_inj {r t : List Rat} (h : vD r = vD t) : r = t := by
  have h2 : r.map rD = t.map rD := by injection h
  refine List.map_inj_right (f := rD) (fun x y e => ?_) |>.mp h2
  have e2 : ([PyData.int x.num, .int (x.den : Int)] : List PyData) = [.int y.num, .int (y.den : Int)] := by injection e
  have e3 : x.num = y.num := by injection e2 with a _; injection a
  have e4 : (x.den : Int) = (y.den : Int) := by injection e2 with _ b; injection b with b _; injection b
  exact Rat.ext e3 (by omega)
section
variable {P : Program} {w : World} {K : PySem.W.Frag} {mg : Str → Option Value} {base : Heap} {C : Addr}

abbrev s_made_of : Stmt := topS 36
theorem sc_made_of : FnScope ["rows", "target", "solver", "weights"] ["rows", "target"] (defScope s_made_of) := ⟨rfl, rfl, rfl, by decide +kernel, rfl, by decide +kernel, by decide +kernel⟩
def wts (rows : List (List Rat)) (size : Nat) (target : List Rat) : List Rat := ((leftOf rows size target).drop size).map fun x => -x
def mks (rows : List (List Rat)) (size : Nat) (target : List Rat) (pl : Nat) : List Rat := marksL (leftOf rows size target) pl size (solved rows size).reverse
/-- what made_of answers -/
def told (rows : List (List Rat)) (size : Nat) (target : List Rat) : PyData := match first (leftOf rows size target) size with
  | none => .tuple [.str "made", vD (wts rows size target)]
  | some pl => .tuple [.str "apart", vD (mks rows size target pl)]
def sp_made_of (K : PySem.W.Frag) (er : Er) : Sp := fun vs H Q E => ∃ (S : Addr → Prop) (v1 v2 : V) (d1 d2 : PyData), vs = [v1, v2] ∧ Da K S H v1 d1 ∧ Da K S H v2 d2 ∧ (jMat d1 = true → jVec d2 = true → misfit d1 d2 = false → Solv d1 d2) ∧
  ∀ H', Same H H' → (jMat d1 = false → E (.ref er.m) none H') ∧ (jMat d1 = true → jVec d2 = false → E (.ref er.v) none H') ∧ (jMat d1 = true → jVec d2 = true → misfit d1 d2 = true → E (.ref er.u) none H') ∧
    ∀ p A t, jMat d1 = true → jVec d2 = true → d1 = mD A → d2 = vD t → misfit d1 d2 = false → Im K H' (.ref p) (told A t.length t) → Q (.ref p) H'
set_option maxHeartbeats 1000000 in
theorem ok_made_of {f : Addr} {fd : FuncData} {k : Nat} (F : Fun K "made_of" "made_of" s_made_of f fd) (T : Tx K mg C){er : Er} (TE : Tr K mg er) {k1 : Nat} (D_need_matrix : DefX P w K mg base k1 "need_matrix" s_need_matrix ["thing"] (sp_need_matrix K er)) {k2 : Nat} (D_need_vector : DefX P w K mg base k2 "need_vector" s_need_vector ["thing"] (sp_need_vector K er)) {k3 : Nat} (I_Solver : Ini P w K mg base k3 C ["self", "rows", "size"] (sp_init K C)) {k4 : Nat} (M_weights : Met P w K mg base k4 C "weights" ["self", "target"] (sp_weights K C)) {k5 : Nat} (M_marks : Met P w K mg base k5 C "marks" ["self", "target"] (sp_marks K C)) (e1 : k1 ≤ k) (e2 : k2 ≤ k) (e3 : k3 + 1 ≤ k) (e4 : k4 ≤ k) (e5 : k5 ≤ k) : FnOk P w K mg base (L2.CX P w) (k + 1) f fd ["rows", "target"] (sp_made_of K er) := by
  have nd := sc_made_of.nd
  refine F.okX sc_made_of (fun vs H Q E h => ?_) (fun cdv A outer s H vs Q E hr h => ?_)
  · obtain ⟨_, _, _, _, _, rfl, _⟩ := h
    rfl
  · obtain ⟨S, v1, v2, d1, d2, rfl, a1, a2, sv0, q⟩ := h
    refine ⟨_, (pss_cons (ps_expr (pe_defX D_need_matrix (takes_of rfl rfl rfl rfl) (hr.mono (by omega)) rfl (pa_cons (pv 0) pa_nil)))
      (pss_cons (ps_expr (pe_defX D_need_vector (takes_of rfl rfl rfl rfl) (hr.mono (by omega)) rfl (pa_cons (pv 1) pa_nil)))
      (C8.pss_cut (ps_if (PW.pt (pw_and (pt_truth (pv 0) (by intro _; rfl)) (pw_and1 (pt_cmpR op_ne (pe_callB (kcall_len K) (by rfl) T.m_len PySem.boot_len (pa_cons (pe_ix (kix_tup K) (pv 0) pe_int (fun _ _ => rfl)) pa_nil)) (pe_callB (kcall_len K) (by rfl) T.m_len PySem.boot_len (pa_cons (pv 1) pa_nil)) (nomark _)))))
        (pss_one (ps_raise rfl (takes_of rfl rfl rfl rfl) (pmk_own PySem.F.excBase_ValueError TE.x_Unlike TE.g_Unlike TE.k_Unlike (raises_own TE.b_Unlike TE.t_Unlike) rfl)))
        pss_nil)
      (pss_cons (ps_set (i := 2) nd rfl (.inl rfl) (pe_ini I_Solver (hr.mono (by omega)) (by rfl) T.c_Solver (pa_cons (pv 0) (pa_cons (pe_callB (kcall_len K) (by rfl) T.m_len PySem.boot_len (pa_cons (pv 1) pa_nil)) pa_nil))))
      (pss_cons (ps_set (i := 3) nd rfl (.inl rfl) (pe_met M_weights T.cl (hr.mono (by omega)) (pv 2) (pa_cons (pv 1) pa_nil)))
      (pss_cons (ps_if (pt_cmp (pc_notN (pv 3)))
        (pss_one (ps_ret (pe_tup (pa_cons pe_str (pa_cons (pv 3) pa_nil)))))
        pss_nil)
      (pss_one (ps_ret (pe_tup (pa_cons pe_str (pa_cons (pe_met M_marks T.cl (hr.mono (by omega)) (pv 2) (pa_cons (pv 1) pa_nil)) pa_nil))))))))))), ?_⟩
    refine ⟨v1, rfl, v1, d1, rfl, a1.dp, fun H1 sm1 => ?_⟩
    cases j1 : jMat d1 with
    | false => exact iteF ((q H1 sm1).1 j1)
    | true =>
    refine iteT ⟨v2, rfl, v2, d2, rfl, dp_same sm1 _ a2.dp, fun H2 sm2 => ?_⟩
    have sm := sm1.trans sm2
    cases j2 : jVec d2 with
    | false => exact iteF ((q H2 sm).2.1 j1 j2)
    | true =>
    refine iteT ?_
    obtain ⟨rows, rfl, l48, hlen, w48⟩ := mat_of j1
    obtain ⟨target, rfl, t48⟩ := vec_of j2
    have i1' := Im.mono (tk_same sm) _ (a1.im _ (noL_mat rows))
    have i2' := Im.mono (tk_same sm) _ (a2.im _ (noL_vec target))
    obtain ⟨a, xs, rfl, ha, hxs⟩ := mat_inv i1'
    obtain ⟨b, ys, rfl, hb, hys⟩ := vec_inv i2'
    have lx : xs.length = rows.length := all_len hxs
    have ly : ys.length = target.length := all_len hys
    refine ⟨fun σ' H' => σ' = [some (.ref a), some (.ref b), none, none] ∧ H' = H2 ∧ misfit (mD rows) (vD target) = false, ?_, ?_⟩
    · refine ⟨.ref a, rfl, !xs.isEmpty, .inr (.inl ⟨xs, ha.sq, rfl⟩), ?_⟩
      cases hM : rows with
      | nil =>
        have e : xs = [] := by
          cases xs with
          | nil => rfl
          | cons _ _ => rw [hM] at lx; simp at lx
        rw [e]
        exact iteF (iteF ⟨rfl, rfl, rfl⟩)
      | cons r rs =>
        have h0 : 0 < xs.length := by rw [lx, hM]; simp
        have e : (!xs.isEmpty) = true := by
          cases xs with
          | nil => simp at h0
          | cons _ _ => rfl
        rw [e]
        have hr0 : rows[0]? = some r := by rw [hM]; rfl
        obtain ⟨y0, hy0, i0⟩ := all_at hxs hr0
        obtain ⟨c, zs, rfl, hc, hzs⟩ := vec_inv i0
        refine iteT ⟨.ref a, rfl, a, xs, 0, _, rfl, rfl, ha.sq, atI_nat (j := 0) hy0, c, zs, rfl, .inr hc.sq, .ref b, rfl, b, ys, rfl, .inr hb.sq, rfl, _, rfl, ?_⟩
        have lz : zs.length = r.length := all_len hzs
        have em : misfit (mD (r :: rs)) (vD target) = decide (r.length ≠ target.length) := by
          rw [mis_as]
          show decide (r.length ≠ (target.map rD).length) = _
          rw [List.length_map]
        by_cases el : r.length = target.length
        · rw [show zs.length = ys.length by rw [lz, ly, el]]
          refine iteNS rfl ⟨rfl, rfl, ?_⟩
          rw [em]
          exact decide_eq_false (fun z => z el)
        · have hne : ¬ (V.int (zs.length : Nat) = V.int (ys.length : Nat)) := fun z => el (by have := V.int.inj z; omega)
          rw [decide_eq_false hne]
          refine iteT ((q H2 sm).2.2.1 j1 j2 ?_)
          rw [hM, em]
          exact decide_eq_true el
    · rintro σ' H' ⟨rfl, rfl, mf⟩
      obtain ⟨sc, Ec, m, t, hi⟩ := sv0 j1 j2 mf rows target rfl rfl
      have n48 := t.n48
      refine ⟨.ref a, rfl, .ref b, rfl, b, ys, rfl, .inr hb.sq, fun x dx hx hdx ne => ?_⟩
      have smi : Same H' (upd (upd H' dx (.own x)) x (.ins C dx [])) := fun c o e => by
        rw [upd_ne (ne_of_none e hx), upd_ne (ne_of_none e hdx)]; exact e
      rw [ly]
      generalize hsz : target.length = size at *
      refine ⟨x, dx, a, rows, size, sc, Ec, m, rfl, upd_same, Im.mono (tk_same smi) _ i1', t, fun H4 h b4 e4 hh4 => ⟨rfl, ?_⟩⟩
      have sm4 : Same H' H4 := fun c o e => b4 c o (ne_of_none e hx) (smi c o e)
      have sv : SolvAt K C H4 x size rows := ⟨dx, h, e4, hh4⟩
      have i2'' := Im.mono (tk_same sm4) _ i2'
      have fin : ∀ p H7, Same H H7 → Im K H7 (.ref p) (told rows size target) → Q (.ref p) H7 := fun p H7 s7 i7 => by
        have := (q H7 s7).2.2.2 p rows target j1 j2 rfl rfl mf
        rw [hsz] at this
        exact this i7
      refine ⟨.ref x, rfl, x, dx, _, rfl, e4, rfl, .ref b, rfl, x, .ref b, rows, target, size, sc, Ec, m, rfl, sv, t, i2'', hsz, hi, fun pl hf H5 sm5 => ?_, fun hf p H5 sm5 np i5 => ?_⟩
      · refine ⟨_, rfl, _, rfl, iteF ?_⟩
        have sm45 := sm4.trans sm5
        refine ⟨.ref x, rfl, x, dx, _, rfl, sm5 _ _ e4, rfl, .ref b, rfl, x, .ref b, rows, target, size, sc, Ec, m, pl, rfl, sv.same sm5, t, Im.mono (tk_same sm45) _ i2', hsz, hi, hf, fun p H6 sm6 np i6 => ?_⟩
        refine ⟨by show 2 ≤ sizeLine; decide, fun p7 hp7 => fin p7 _ ((sm.trans (sm45.trans sm6)).trans (same_new hp7)) ?_⟩
        unfold told
        rw [hf]
        exact Im.new hp7 (.cons (.str _) (.cons i6 .nil))
      · refine ⟨_, rfl, _, rfl, iteT ?_⟩
        refine ⟨.ref p, rfl, by show 2 ≤ sizeLine; decide, fun p7 hp7 => fin p7 _ ((sm.trans (sm4.trans sm5)).trans (same_new hp7)) ?_⟩
        unfold told
        rw [hf]
        exact Im.new hp7 (.cons (.str _) (.cons i5 .nil))

abbrev s_times_matrix : Stmt := topS 39
theorem sc_times_matrix : FnScope ["one", "other"] ["one", "other"] (defScope s_times_matrix) := ⟨rfl, rfl, rfl, by decide +kernel, rfl, by decide +kernel, by decide +kernel⟩
def sp_times_matrix (K : PySem.W.Frag) (er : Er) : Sp := fun vs H Q E => ∃ (S : Addr → Prop) (v1 v2 : V) (d1 d2 : PyData), vs = [v1, v2] ∧ Da K S H v1 d1 ∧ Da K S H v2 d2 ∧ (jMat d1 = true → jMat d2 = true → misfit d1 d2 = false → Mult d1 d2) ∧
  ∀ H', Same H H' → (jMat d1 = false → E (.ref er.m) none H') ∧ (jMat d1 = true → jMat d2 = false → E (.ref er.m) none H') ∧ (jMat d1 = true → jMat d2 = true → misfit d1 d2 = true → E (.ref er.u) none H') ∧
    ∀ p A B, jMat d1 = true → jMat d2 = true → d1 = mD A → d2 = mD B → misfit d1 d2 = false → Im K H' (.ref p) (mD (mm (width B) A B)) → Q (.ref p) H'
set_option maxHeartbeats 1000000 in
theorem ok_times_matrix {f : Addr} {fd : FuncData} {k : Nat} (F : Fun K "times_matrix" "times_matrix" s_times_matrix f fd) (T : Tx K mg C){er : Er} (TE : Tr K mg er) {ki : Nat} (D_need_matrix : DefX P w K mg base ki "need_matrix" s_need_matrix ["thing"] (sp_need_matrix K er)) {kj : Nat} (D_multiplied : Def P w K mg base kj "multiplied" s_multiplied ["one", "other", "size"] (sp_multiplied K)) (hk : ki ≤ k) (hj : kj ≤ k) : FnOk P w K mg base (L2.CX P w) (k + 1) f fd ["one", "other"] (sp_times_matrix K er) := by
  have nd := sc_times_matrix.nd
  refine F.okX sc_times_matrix (fun vs H Q E h => ?_) (fun cdv A outer s H vs Q E hr h => ?_)
  · obtain ⟨_, _, _, _, _, rfl, _⟩ := h
    rfl
  · obtain ⟨S, v1, v2, d1, d2, rfl, a1, a2, ml, q⟩ := h
    refine ⟨_, (pss_cons (ps_expr (pe_defX D_need_matrix (takes_of rfl rfl rfl rfl) (hr.mono (by omega)) rfl (pa_cons (pv 0) pa_nil)))
      (pss_cons (ps_expr (pe_defX D_need_matrix (takes_of rfl rfl rfl rfl) (hr.mono (by omega)) rfl (pa_cons (pv 1) pa_nil)))
      (C8.pss_cut (ps_if (PW.pt (pw_and (pt_truth (pv 0) (by intro _; rfl)) (pw_and1 (pt_cmpR op_ne (pe_callB (kcall_len K) (by rfl) T.m_len PySem.boot_len (pa_cons (pe_ix (kix_tup K) (pv 0) pe_int (fun _ _ => rfl)) pa_nil)) (pe_callB (kcall_len K) (by rfl) T.m_len PySem.boot_len (pa_cons (pv 1) pa_nil)) (nomark _)))))
        (pss_one (ps_raise rfl (takes_of rfl rfl rfl rfl) (pmk_own PySem.F.excBase_ValueError TE.x_Unlike TE.g_Unlike TE.k_Unlike (raises_own TE.b_Unlike TE.t_Unlike) rfl)))
        pss_nil)
      (pss_one (ps_ret (pe_def D_multiplied (hr.mono (by omega)) rfl (pa_cons (pv 0) (pa_cons (pv 1) (pa_cons (pe_ifExp (pt_truth (pv 1) (by intro _; rfl)) (pe_callB (kcall_len K) (by rfl) T.m_len PySem.boot_len (pa_cons (pe_ix (kix_tup K) (pv 1) pe_int (fun _ _ => rfl)) pa_nil)) pe_int) pa_nil))))))))), ?_⟩
    refine ⟨v1, rfl, v1, d1, rfl, a1.dp, fun H1 sm1 => ?_⟩
    cases j1 : jMat d1 with
    | false => exact iteF ((q H1 sm1).1 j1)
    | true =>
    refine iteT ⟨v2, rfl, v2, d2, rfl, dp_same sm1 _ a2.dp, fun H2 sm2 => ?_⟩
    have sm := sm1.trans sm2
    cases j2 : jMat d2 with
    | false => exact iteF ((q H2 sm).2.1 j1 j2)
    | true =>
    refine iteT ?_
    obtain ⟨M, rfl, l48, hlen, w48⟩ := mat_of j1
    obtain ⟨B, rfl, lB48, hlenB, wB48⟩ := mat_of j2
    obtain ⟨a, xs, rfl, ha, hxs⟩ := mat_inv (Im.mono (tk_same sm) _ (a1.im _ (noL_mat M)))
    obtain ⟨b, ys, rfl, hb, hys⟩ := mat_inv (Im.mono (tk_same sm) _ (a2.im _ (noL_mat B)))
    have lx : xs.length = M.length := all_len hxs
    have ly : ys.length = B.length := all_len hys
    refine ⟨fun σ' H' => σ' = [some (.ref a), some (.ref b)] ∧ H' = H2 ∧ misfit (mD M) (mD B) = false, ?_, ?_⟩
    · refine ⟨.ref a, rfl, !xs.isEmpty, .inr (.inl ⟨xs, ha.sq, rfl⟩), ?_⟩
      cases hM : M with
      | nil =>
        have e : xs = [] := by
          cases xs with
          | nil => rfl
          | cons _ _ => rw [hM] at lx; simp at lx
        rw [e]
        exact iteF (iteF ⟨rfl, rfl, rfl⟩)
      | cons r rs =>
        have h0 : 0 < xs.length := by rw [lx, hM]; simp
        have e : (!xs.isEmpty) = true := by
          cases xs with
          | nil => simp at h0
          | cons _ _ => rfl
        rw [e]
        have hr0 : M[0]? = some r := by rw [hM]; rfl
        obtain ⟨y0, hy0, i0⟩ := all_at hxs hr0
        obtain ⟨c, zs, rfl, hc, hzs⟩ := vec_inv i0
        refine iteT ⟨.ref a, rfl, a, xs, 0, _, rfl, rfl, ha.sq, atI_nat (j := 0) hy0, c, zs, rfl, .inr hc.sq, .ref b, rfl, b, ys, rfl, .inr hb.sq, rfl, _, rfl, ?_⟩
        have lz : zs.length = r.length := all_len hzs
        have em : misfit (mD (r :: rs)) (mD B) = decide (r.length ≠ B.length) := by
          rw [mis_as]
          show decide (r.length ≠ (B.map vD).length) = _
          rw [List.length_map]
        by_cases el : r.length = B.length
        · rw [show zs.length = ys.length by rw [lz, ly, el]]
          refine iteNS rfl ⟨rfl, rfl, ?_⟩
          rw [em]
          exact decide_eq_false (fun z => z el)
        · have hne : ¬ (V.int (zs.length : Nat) = V.int (ys.length : Nat)) := fun z => el (by have := V.int.inj z; omega)
          rw [decide_eq_false hne]
          refine iteT ((q H2 sm).2.2.1 j1 j2 ?_)
          rw [hM, em]
          exact decide_eq_true el
    · rintro σ' H' ⟨rfl, rfl, mf⟩
      have ft := ml j1 j2 mf M B rfl rfl
      have last : ∀ (v : V), (∃ n, v = .int (n : Nat) ∧ n = width B) → sp_multiplied K [.ref a, .ref b, v] H' Q E0 := by
        rintro v ⟨n, rfl, rfl⟩
        exact ⟨.ref a, .ref b, M, B, width B, rfl, Im.mono (tk_same sm) _ (a1.im _ (noL_mat M)), Im.mono (tk_same sm) _ (a2.im _ (noL_mat B)), ft, fun p H3 sm3 np ip => (q H3 (sm.trans sm3)).2.2.2 p M B j1 j2 rfl rfl mf ip⟩
      refine ⟨.ref a, rfl, .ref b, rfl, .ref b, rfl, !ys.isEmpty, .inr (.inl ⟨ys, hb.sq, rfl⟩), ?_⟩
      cases hB' : B with
      | nil =>
        have e : ys = [] := by
          cases ys with
          | nil => rfl
          | cons _ _ => rw [hB'] at ly; simp at ly
        rw [e]
        exact iteF (last _ ⟨0, rfl, by rw [hB']; rfl⟩)
      | cons r rs =>
        have h0 : 0 < ys.length := by rw [ly, hB']; simp
        have e : (!ys.isEmpty) = true := by
          cases ys with
          | nil => simp at h0
          | cons _ _ => rfl
        rw [e]
        have hr0 : B[0]? = some r := by rw [hB']; rfl
        obtain ⟨y0, hy0, i0⟩ := all_at hys hr0
        obtain ⟨c, zs, rfl, hc, hzs⟩ := vec_inv i0
        refine iteT ⟨.ref b, rfl, b, ys, 0, _, rfl, rfl, hb.sq, atI_nat (j := 0) hy0, c, zs, rfl, .inr hc.sq, last _ ⟨zs.length, rfl, ?_⟩⟩
        rw [all_len hzs, hB']; rfl
end
end K42

set_option Elab.async false
set_option linter.all false
set_option maxRecDepth 100000
set_option exponentiation.threshold 20000
namespace K42
open PySem PySem.Spec PyProof.Rows L2 Ly Mt El
/-- the class Span -/
structure Ts (K : PySem.W.Frag) (mg : Str → Option Value) (C2 : Addr) : Prop where
  c_Span : mg "Span" = some (.ref C2)
  cl : Cls K C2
  a_size : NoAttr K C2 "size"
  a_held : NoAttr K C2 "held"
  m_sorted : mg "sorted" = none
def F2 (n : Nat) (v : V) : List (Str × V) := [("size", .int n), ("held", v)]
section
variable {s : Int} {E m size : Nat} {rows : List (List Rat)} (t : Task s E m size rows)
include t
theorem Task.stage1 (i : Nat) : ∃ taken, RL (s : Rat) E size size (tins size (rows.take i) []) taken :=
  tins_red t.ok.sr RL.start fun e he => ⟨t.ok.len _ (List.mem_of_mem_take he), t.ok.wholes _ (List.mem_of_mem_take he)⟩
theorem Task.few1 (i : Nat) : (tins size (rows.take i) []).length ≤ m := by
  have h := tins_length (size := size) (es := rows.take i) (held := [])
  have h2 : (rows.take i).length ≤ rows.length := by rw [List.length_take]; omega
  have h3 := t.ok.few
  rw [List.length_nil, Nat.zero_add] at h
  omega
theorem Task.few48 (i : Nat) : (tins size (rows.take i) []).length ≤ 48 := by
  have h := tins_length (size := size) (es := rows.take i) (held := [])
  have h2 : (rows.take i).length ≤ rows.length := by rw [List.length_take]; omega
  have h3 := t.l48
  rw [List.length_nil, Nat.zero_add] at h
  omega
theorem Task.tame1 (i : Nat) : Tame (tins size (rows.take i) []) size := by
  obtain ⟨taken, R⟩ := t.stage1 i
  intro x hx
  exact ⟨R.len x hx, R.piv_lt x hx, R.bd (t.few1 i) t.ok.E1 t.ok.m1 t.pow x hx⟩
theorem Task.part1 (i : Nat) {e : List Rat} (he : e.length = size) (hi : Sc s E e) : ∀ j q, Bd 2900 2900 (fn (clr e ((tins size (rows.take i) []).take j)) q) := by
  obtain ⟨taken, R⟩ := t.stage1 i
  have hd : s.natAbs * (m * E) ^ m < 2 ^ 2900 := by
    have h1 : s.natAbs * (m * E) ^ m ≤ E * (m * E) ^ m := Nat.mul_le_mul_right _ t.ok.sE
    have h2 : E * (m * E) ^ m ≤ (m + 1) * (E * (m * E) ^ m) := Nat.le_mul_of_pos_left _ (by omega)
    exact Nat.lt_of_le_of_lt (Nat.le_trans h1 h2) t.big
  exact fun j q => R.part (b := 0) (t.few1 i) t.ok.E1 t.ok.m1 he t.ok.s0 hi t.big hd j q
theorem Task.step1 {i : Nat} {r : List Rat} (h : rows[i]? = some r) : tins size (rows.take (i + 1)) [] = tin (tins size (rows.take i) []) r size := by
  rw [List.take_add_one, h]
  exact tins_snoc _ _ _ _
theorem Task.full1 {i : Nat} {r : List Rat} (h : (tins size (rows.take i) []).length = size) (hr : r.length = size) : tin (tins size (rows.take i) []) r size = tins size (rows.take i) [] := by
  obtain ⟨taken, R⟩ := t.stage1 i
  exact R.tin_full h hr
end
section
variable {P : Program} {w : World} {K : PySem.W.Frag} {mg : Str → Option Value} {base : Heap} {C C2 : Addr}

abbrev s_Span_init : Stmt := inClass (topS 31) 0
theorem sc_Span_init : FnScope ["self", "size"] ["self", "size"] (defScope s_Span_init) := ⟨rfl, rfl, rfl, by decide +kernel, rfl, by decide +kernel, by decide +kernel⟩
def sp_span_init (K : PySem.W.Frag) (C2 : Addr) : Sp := fun vs H Q _ => ∃ (a dx : Addr) (size : Nat), vs = [.ref a, .int size] ∧ H a = some (.ins C2 dx []) ∧
  ∀ H' h, Bar a H H' → H' a = some (.ins C2 dx (F2 size (.ref h))) → HeldAt K H' h [] → Q .non H'
theorem ok_Span_init {f : Addr} {fd : FuncData} {k : Nat} (F : Fun K "__init__" "Span.__init__" s_Span_init f fd) (T : Tx K mg C)(TS : Ts K mg C2) : FnOk P w K mg base CX0 (k + 1) f fd ["self", "size"] (sp_span_init K C2) := by
  have nd := sc_Span_init.nd
  refine F.ok sc_Span_init (fun vs H Q E h => ?_) (fun cdv A outer s H vs Q E hr h => ?_)
  · obtain ⟨_, _, _, rfl, _⟩ := h
    rfl
  · obtain ⟨a, dx, size, rfl, ea, q⟩ := h
    refine ⟨_, (pss_cons (ps_fld (pv 0) (pv 1) rfl)
      (pss_one (ps_fld (pv 0) (pe_lst pa_nil) rfl))), ?_⟩
    refine ⟨.int size, rfl, .ref a, rfl, a, C2, dx, [], rfl, ea, TS.cl, TS.a_size, by decide, ?_⟩
    have b1 : Bar a H (upd H a (.ins C2 dx (putF "size" (.int size) []))) := bar_upd
    have e1 : (upd H a (.ins C2 dx (putF "size" (.int size) []))) a = some (.ins C2 dx [("size", .int size)]) := upd_same
    generalize upd H a (.ins C2 dx (putF "size" (.int size) [])) = G1 at *
    refine ⟨by show 0 ≤ sizeLine; decide, fun l hl => ?_⟩
    have e3 := (same_new (o := .lst []) hl) _ _ e1
    have el3 : (upd G1 l (.lst [])) l = some (.lst []) := upd_same
    have b3 : Bar a G1 (upd G1 l (.lst [])) := bar_same (same_new hl)
    generalize upd G1 l (.lst []) = G3 at *
    refine ⟨.ref a, rfl, a, C2, dx, _, rfl, e3, TS.cl, TS.a_held, by show 1 < 1000; decide, ?_⟩
    have nl : l ≠ a := fun z => by rw [z, e3] at el3; cases el3
    refine q _ l ((b1.trans b3).trans bar_upd) ?_ ⟨[], ?_, rfl, fun i p r z => by simp at z⟩
    · rw [upd_same]; rfl
    · rw [upd_ne nl]; exact el3

abbrev s_Span_many : Stmt := inClass (topS 31) 1
theorem sc_Span_many : FnScope ["self"] ["self"] (defScope s_Span_many) := ⟨rfl, rfl, rfl, by decide +kernel, rfl, by decide +kernel, by decide +kernel⟩
def sp_many (K : PySem.W.Frag) (C2 : Addr) : Sp := fun vs H Q _ => ∃ (a dx h : Addr) (size : Nat) (hl : HL), vs = [.ref a] ∧ H a = some (.ins C2 dx (F2 size (.ref h))) ∧ HeldAt K H h hl ∧ Q (.int hl.length) H
theorem ok_Span_many {f : Addr} {fd : FuncData} {k : Nat} (F : Fun K "many" "Span.many" s_Span_many f fd) (T : Tx K mg C)(TS : Ts K mg C2) : FnOk P w K mg base CX0 (k + 1) f fd ["self"] (sp_many K C2) := by
  have nd := sc_Span_many.nd
  refine F.ok sc_Span_many (fun vs H Q E h => ?_) (fun cdv A outer s H vs Q E hr h => ?_)
  · obtain ⟨_, _, _, _, _, rfl, _⟩ := h
    rfl
  · obtain ⟨a, dx, h, size, hl, rfl, ea, ⟨hs, eh, lh, gh⟩, q⟩ := h
    refine ⟨_, (pss_one (ps_ret (pe_callB (kcall_len K) (by rfl) T.m_len PySem.boot_len (pa_cons (kpe_fld K (pv 0)) pa_nil)))), ?_⟩
    refine ⟨.ref a, rfl, a, C2, dx, _, _, rfl, ea, TS.cl, TS.a_held, rfl, h, hs, rfl, .inl (.of eh), ?_⟩
    rw [lh]
    exact q

abbrev s_Span_take : Stmt := inClass (topS 31) 3
theorem sc_Span_take : FnScope ["self", "vector", "ahead"] ["self", "vector"] (defScope s_Span_take) := ⟨rfl, rfl, rfl, by decide +kernel, rfl, by decide +kernel, by decide +kernel⟩
def sp_take (K : PySem.W.Frag) (C2 : Addr) : Sp := fun vs H Q _ => ∃ (a dx h : Addr) (v : V) (size : Nat) (hl : HL) (e : List Rat), vs = [.ref a, v] ∧ H a = some (.ins C2 dx (F2 size (.ref h))) ∧ HeldAt K H h hl ∧ Im K H v (vD e) ∧ e.length = size ∧ size ≤ 48 ∧
  Tame hl size ∧ hl.length ≤ 48 ∧ (∀ j q, Bd 2900 2900 (fn (clr e (hl.take j)) q)) ∧ Tame (tin hl e size) size ∧ (hl.length = size → tin hl e size = hl) ∧
  ∀ b H' h', Bar a H H' → H' a = some (.ins C2 dx (F2 size (.ref h'))) → HeldAt K H' h' (tin hl e size) → Q (.bl b) H'
theorem ok_Span_take {f : Addr} {fd : FuncData} {k : Nat} (F : Fun K "take" "Span.take" s_Span_take f fd) (T : Tx K mg C)(TS : Ts K mg C2) {ki : Nat} (D_taken_in : Def P w K mg base ki "taken_in" s_taken_in ["held", "entries", "size"] (sp_taken_in K)) (hk : ki ≤ k) : FnOk P w K mg base CX0 (k + 1) f fd ["self", "vector"] (sp_take K C2) := by
  have nd := sc_Span_take.nd
  refine F.ok sc_Span_take (fun vs H Q E h => ?_) (fun cdv A outer s H vs Q E hr h => ?_)
  · obtain ⟨_, _, _, _, _, _, _, rfl, _⟩ := h
    rfl
  · obtain ⟨a, dx, h, v, size, hl, e, rfl, ea, hh, iv, le, n48, tm, few, bd, tm2, full, q⟩ := h
    obtain ⟨hs, eh, lh, gh⟩ := id hh
    refine ⟨_, (pss_cons (ps_set (i := 2) nd rfl (.inl rfl) (pe_callB (kcall_len K) (by rfl) T.m_len PySem.boot_len (pa_cons (kpe_fld K (pv 0)) pa_nil)))
      (pss_cons (ps_if (pt_cmpR op_eq (pv 2) (kpe_fld K (pv 0)) (nomark _))
        (pss_one (ps_ret pe_bl))
        pss_nil)
      (pss_cons (ps_fld (pv 0) (pe_def D_taken_in (hr.mono (by omega)) rfl (pa_cons (kpe_fld K (pv 0)) (pa_cons (pe_callTy (kcall_list K) (by rfl) T.m_list (by decide +kernel) (pa_cons (pv 1) pa_nil)) (pa_cons (kpe_fld K (pv 0)) pa_nil)))) rfl)
      (pss_one (ps_ret (pe_cmpR op_gt (pe_callB (kcall_len K) (by rfl) T.m_len PySem.boot_len (pa_cons (kpe_fld K (pv 0)) pa_nil)) (pv 2) (nomark _))))))), ?_⟩
    refine ⟨.ref a, rfl, a, C2, dx, _, _, rfl, ea, TS.cl, TS.a_held, rfl, h, hs, rfl, .inl (.of eh), ?_⟩
    refine ⟨.int hs.length, rfl, .ref a, rfl, a, C2, dx, _, _, rfl, ea, TS.cl, TS.a_size, rfl, rfl, _, rfl, ?_⟩
    by_cases hf : hs.length = size
    · rw [decide_eq_true (show V.int (hs.length : Nat) = V.int (size : Nat) by rw [hf])]
      refine iteT (q false H h (fun _ _ _ z => z) ea ?_)
      rw [full (by omega)]
      exact hh
    · rw [decide_eq_false (show ¬ V.int (hs.length : Nat) = V.int (size : Nat) from fun z => hf (by have := V.int.inj z; omega))]
      obtain ⟨p, xs, rfl, hp, hxs⟩ := vec_inv iv
      have lx : xs.length = size := by rw [all_len hxs, le]
      refine iteF ⟨.ref a, rfl, a, C2, dx, _, _, rfl, ea, TS.cl, TS.a_held, rfl, .ref p, rfl, p, xs, rfl, .inr hp.sq, fun l hl2 => ?_⟩
      have sm2 : Same H (upd H l (.lst xs)) := same_new hl2
      have el2 : (upd H l (.lst xs)) l = some (.lst xs) := upd_same
      have L2 : LRow K (upd H l (.lst xs)) l e := ⟨xs, upd_same, ImAll.mono (tk_same sm2) _ hxs⟩
      generalize upd H l (.lst xs) = G2 at *
      refine ⟨.ref a, rfl, a, C2, dx, _, _, rfl, sm2 _ _ ea, TS.cl, TS.a_size, rfl, h, l, size, hl, e, rfl, hh.same sm2, L2, by rw [le]; exact tm, by omega, n48, by omega, few, bd, by rw [le]; exact tm2, fun p3 H3 sm3 hh3 => ?_⟩
      have e3 := sm3 _ _ (sm2 _ _ ea)
      refine ⟨.ref a, rfl, a, C2, dx, _, rfl, e3, TS.cl, TS.a_held, by show 2 < 1000; decide, ?_⟩
      have b4 : Bar a H3 (upd H3 a (.ins C2 dx (putF "held" (.ref p3) (F2 size (.ref h))))) := bar_upd
      have e4 : (upd H3 a (.ins C2 dx (putF "held" (.ref p3) (F2 size (.ref h))))) a = some (.ins C2 dx (F2 size (.ref p3))) := by rw [upd_same]; rfl
      have h4 := hh3.ins b4 e3
      generalize upd H3 a (.ins C2 dx (putF "held" (.ref p3) (F2 size (.ref h)))) = G4 at *
      obtain ⟨hs4, eh4, lh4, gh4⟩ := id h4
      refine ⟨.ref a, rfl, a, C2, dx, _, _, rfl, e4, TS.cl, TS.a_held, rfl, p3, hs4, rfl, .inl (.of eh4), .int hs.length, rfl, _, _, rfl, rfl, ?_⟩
      exact q _ G4 p3 ((bar_same (sm2.trans sm3)).trans b4) e4 h4
end
end K42

set_option Elab.async false
set_option linter.all false
set_option maxRecDepth 100000
set_option exponentiation.threshold 20000
namespace K42
open PySem PySem.Spec PyProof.Rows L2 Ly Mt El
/-- a matrix that rank can take -/
def Rank (d : PyData) : Prop := ∀ A, d = mD A → ∃ s E m, Task s E m (width A) A
/-- a matrix that is not square -/
def oblong (d : PyData) : Bool := match d with
  | .tuple (r :: l) => decide (rowLen r ≠ (r :: l).length)
  | _ => false
def Inver (d : PyData) : Prop := ∀ A, d = mD A → ∃ s E m, Task s E m A.length A
section
variable {P : Program} {w : World} {K : PySem.W.Frag} {mg : Str → Option Value} {base : Heap} {C C2 : Addr}

abbrev s_rank : Stmt := topS 37
theorem sc_rank : FnScope ["rows", "span", "row"] ["rows"] (defScope s_rank) := ⟨rfl, rfl, rfl, by decide +kernel, rfl, by decide +kernel, by decide +kernel⟩
def sp_rank (K : PySem.W.Frag) (er : Er) : Sp := fun vs H Q E => ∃ (S : Addr → Prop) (v1 : V) (d1 : PyData), vs = [v1] ∧ Da K S H v1 d1 ∧ (jMat d1 = true → Rank d1) ∧
  ∀ H', Same H H' → (jMat d1 = false → E (.ref er.m) none H') ∧ ∀ A, jMat d1 = true → d1 = mD A → Q (.int (tins (width A) A []).length) H'
set_option maxHeartbeats 1000000 in
theorem ok_rank {f : Addr} {fd : FuncData} {k : Nat} (F : Fun K "rank" "rank" s_rank f fd) (T : Tx K mg C){er : Er} (TE : Tr K mg er) (TS : Ts K mg C2) {ki : Nat} (D_need_matrix : DefX P w K mg base ki "need_matrix" s_need_matrix ["thing"] (sp_need_matrix K er)) {kj : Nat} (I_Span : Ini P w K mg base kj C2 ["self", "size"] (sp_span_init K C2)) {kl : Nat} (M_take : Met P w K mg base kl C2 "take" ["self", "vector"] (sp_take K C2)) {kn : Nat} (M_many : Met P w K mg base kn C2 "many" ["self"] (sp_many K C2)) (hk : ki ≤ k) (hj : kj + 1 ≤ k) (hl : kl ≤ k) (hn : kn ≤ k) : FnOk P w K mg base (L2.CX P w) (k + 1) f fd ["rows"] (sp_rank K er) := by
  have nd := sc_rank.nd
  refine F.okX sc_rank (fun vs H Q E h => ?_) (fun cdv A outer s H vs Q E hr h => ?_)
  · obtain ⟨_, _, _, rfl, _⟩ := h
    rfl
  · obtain ⟨S, v1, d1, rfl, a1, rk, q⟩ := h
    refine ⟨_, (pss_cons (ps_expr (pe_defX D_need_matrix (takes_of rfl rfl rfl rfl) (hr.mono (by omega)) rfl (pa_cons (pv 0) pa_nil)))
      (C8.pss_cut (ps_set (i := 1) nd rfl (.inl rfl) (pe_ini I_Span (hr.mono (by omega)) (by rfl) TS.c_Span (pa_cons (pe_ifExp (pt_truth (pv 0) (by intro _; rfl)) (pe_callB (kcall_len K) (by rfl) T.m_len PySem.boot_len (pa_cons (pe_ix (kix_tup K) (pv 0) pe_int (fun _ _ => rfl)) pa_nil)) pe_int) pa_nil)))
      (pss_cons (ps_for (passes_of rfl) rfl (kpi_tup K (pv 0)) (pg_name (i := 2) nd rfl (.inl rfl))
        (pss_one (ps_expr (pe_met M_take TS.cl (hr.mono (by omega)) (pv 1) (pa_cons (pv 2) pa_nil)))))
      (pss_one (ps_ret (pe_met0 M_many TS.cl (hr.mono (by omega)) (pv 1))))))), ?_⟩
    refine ⟨v1, rfl, v1, d1, rfl, a1.dp, fun H1 sm1 => ?_⟩
    cases j1 : jMat d1 with
    | false => exact iteF ((q H1 sm1).1 j1)
    | true =>
    refine iteT ?_
    obtain ⟨M, rfl, l48, hlen, w48⟩ := mat_of j1
    obtain ⟨sc, Ec, m, t⟩ := rk j1 M rfl
    have i1 := Im.mono (tk_same sm1) _ (a1.im _ (noL_mat M))
    obtain ⟨a, xs, rfl, ha, hxs⟩ := mat_inv i1
    have lx : xs.length = M.length := all_len hxs
    refine ⟨fun σ' H' => ∃ (x dx h : Addr), σ' = [some (.ref a), some (.ref x), none] ∧ Bar x H1 H' ∧ H1 x = none ∧ H' x = some (.ins C2 dx (F2 (width M) (.ref h))) ∧ HeldAt K H' h [], ?_, ?_⟩
    · refine ⟨.ref a, rfl, !xs.isEmpty, .inr (.inl ⟨xs, ha.sq, rfl⟩), ?_⟩
      have last : ∀ n : Nat, n = width M → ∀ x dx, H1 x = none → H1 dx = none → dx ≠ x → sp_span_init K C2 [.ref x, .int n] (upd (upd H1 dx (.own x)) x (.ins C2 dx [])) (fun v H2 => v = .non ∧ ∃ (x' dx' h : Addr), [some (V.ref a), some (V.ref x), none] = [some (.ref a), some (.ref x'), none] ∧ Bar x' H1 H2 ∧ H1 x' = none ∧ H2 x' = some (.ins C2 dx' (F2 (width M) (.ref h))) ∧ HeldAt K H2 h []) E0 := by
        rintro n rfl x dx hx hdx ne
        refine ⟨x, dx, width M, rfl, upd_same, fun H4 h b4 e4 hh4 => ⟨rfl, x, dx, h, rfl, fun b o hb e => b4 b o hb ?_, hx, e4, hh4⟩⟩
        rw [upd_ne hb, upd_ne (ne_of_none e hdx)]; exact e
      cases hM : M with
      | nil =>
        have e : xs = [] := by
          cases xs with
          | nil => rfl
          | cons _ _ => rw [hM] at lx; simp at lx
        rw [e]
        rw [hM] at last
        exact iteF (last 0 rfl)
      | cons r rs =>
        have h0 : 0 < xs.length := by rw [lx, hM]; simp
        have e : (!xs.isEmpty) = true := by
          cases xs with
          | nil => simp at h0
          | cons _ _ => rfl
        rw [e]
        have hr0 : M[0]? = some r := by rw [hM]; rfl
        obtain ⟨y0, hy0, i0⟩ := all_at hxs hr0
        obtain ⟨c, zs, rfl, hc, hzs⟩ := vec_inv i0
        rw [hM] at last
        exact iteT ⟨.ref a, rfl, a, xs, 0, _, rfl, rfl, ha.sq, atI_nat (j := 0) hy0, c, zs, rfl, .inr hc.sq, last zs.length (all_len hzs)⟩
    · rintro σ' H' ⟨x, dx, h, rfl, b0, nx, ex, hh0⟩
      have tk0 : TK H1 H' := fun b ys e => b0 b _ (ne_of_none e nx) e
      have sm0 : ∀ {H2 : Hp}, Bar x H' H2 → Same H1 H2 := fun {H2} b c o e => b c o (ne_of_none e nx) (b0 c o (ne_of_none e nx) e)
      refine ⟨.ref a, rfl, a, rfl, ⟨xs, (ha.mono tk0).sq⟩, ?_⟩
      have rl : ∀ r ∈ M, r.length = width M := hlen
      refine for_it (walk_tup (xs := xs)) (fun i σ H2 => ∃ (h : Addr) (y2 : Option V), σ = [some (.ref a), some (.ref x), y2] ∧ Bar x H' H2 ∧ H2 x = some (.ins C2 dx (F2 (width M) (.ref h))) ∧ HeldAt K H2 h (tins (width M) (M.take i) [])) ⟨h, none, rfl, fun _ _ _ z => z, ex, hh0⟩ (fun i σ H2 _ ⟨_, _, _, b, _⟩ => (ha.mono (tk_same (sm0 b))).sq) ?_ ?_
      · rintro i x' σ H2 H3 hi ⟨h2, y2, rfl, b2, e2, hh2⟩ ⟨rfl, hx⟩
        obtain ⟨r, hr', ir⟩ := all_get hxs hx
        have mr := List.mem_of_getElem? hr'
        have lr := rl r mr
        have st := t.step1 hr'
        refine ⟨.ref x, rfl, x, dx, _, rfl, e2, rfl, x', rfl, x, dx, h2, x', width M, _, r, rfl, e2, hh2, Im.mono (tk_same (sm0 b2)) _ ir, lr, t.n48, t.tame1 i, t.few48 i, t.part1 i lr (t.ok.wholes r mr), by rw [← st]; exact t.tame1 (i + 1), fun e => t.full1 e lr, fun bb H4 h4 b4 e4 hh4 => ?_⟩
        rw [← st] at hh4
        exact ⟨h4, _, rfl, b2.trans b4, e4, hh4⟩
      · rintro σ H2 ⟨h2, y2, rfl, b2, e2, hh2⟩
        rw [List.take_of_length_le (by omega)] at hh2
        refine ⟨.ref x, rfl, x, dx, _, rfl, e2, rfl, x, dx, h2, width M, _, rfl, e2, hh2, ?_⟩
        exact (q H2 (sm1.trans (sm0 b2))).2 M j1 rfl
end
end K42

set_option Elab.async false
set_option linter.all false
set_option maxRecDepth 100000
set_option exponentiation.threshold 20000
namespace K42
open PySem PySem.Spec PyProof.Rows L2 Ly Mt El
/-- the held row with the pivot p -/
def rowAt (h : HL) (p : Nat) : List Rat := match h.find? (fun x => x.1 == p) with
  | some x => x.2
  | none => []
theorem rowAt_eq : ∀ {h : HL} {p : Nat} {r : List Rat}, (h.map (·.1)).Nodup → (p, r) ∈ h → rowAt h p = r
  | [], _, _, _, m => by simp at m
  | (q, u) :: h, p, r, nd, m => by
    rw [List.map_cons, List.nodup_cons] at nd
    unfold rowAt
    rw [List.find?_cons]
    by_cases e : q = p
    · have e2 : ((q, u).1 == p) = true := by rw [beq_iff_eq]; exact e
      rw [e2]
      rcases List.mem_cons.mp m with m | m
      · have := congrArg Prod.snd m
        exact this.symm
      · exact absurd (List.mem_map.mpr ⟨(p, r), m, e.symm⟩) nd.1
    · have e2 : ((q, u).1 == p) = false := by
        cases hb : ((q, u).1 == p) with
        | false => rfl
        | true => exact absurd (beq_iff_eq.mp hb) e
      rw [e2]
      rcases List.mem_cons.mp m with m | m
      · exact absurd (congrArg Prod.fst m).symm e
      · have := rowAt_eq nd.2 m
        unfold rowAt at this
        exact this
/-- the inverse -/
def invL (A : List (List Rat)) : List (List Rat) := (List.range A.length).map fun p => (rowAt (solved A A.length) p).drop A.length
/-- the int of a pair -/
def kOf (H : Hp) (v : V) : Int := match v with
  | .ref a => match H a with
    | some (.tup (.int i :: _)) => i
    | _ => 0
  | _ => 0
theorem kOf_at {H : Hp} {a : Addr} {i : Int} {r : List V} (h : H a = some (.tup (.int i :: r))) : kOf H (.ref a) = i := by
  unfold kOf
  simp only [h]
theorem hacc_mem {K : PySem.W.Frag} {H : Hp} {D : Addr} {vs : List V} {hl : HL} (h : HAcc K H D vs hl) {x : V} (hx : x ∈ vs) : ∃ (a b : Addr) (p : Nat) (r : List Rat), x = .ref a ∧ H a = some (.tup [.int (p : Nat), .ref b]) ∧ LRow K H b r ∧ (p, r) ∈ hl := by
  obtain ⟨i, hi, rfl⟩ := List.getElem_of_mem hx
  have hi' : i < hl.length := by rw [← h.1]; exact hi
  obtain ⟨a, b, k1, k2, k3, _⟩ := h.2 i hl[i].1 hl[i].2 (List.getElem?_eq_getElem hi')
  rw [List.getElem?_eq_getElem hi] at k1
  exact ⟨a, b, _, _, Option.some.inj k1, k2, k3, List.getElem_mem hi'⟩
theorem hacc_keys {K : PySem.W.Frag} {H : Hp} {D : Addr} {vs : List V} {hl : HL} (h : HAcc K H D vs hl) : vs.map (kOf H) = hl.map (fun x => (x.1 : Int)) := by
  refine List.ext_getElem? fun i => ?_
  rw [List.getElem?_map, List.getElem?_map]
  by_cases hi : i < hl.length
  · obtain ⟨a, b, k1, k2, k3, _⟩ := h.2 i hl[i].1 hl[i].2 (List.getElem?_eq_getElem hi)
    rw [k1, List.getElem?_eq_getElem hi]
    show some (kOf H (.ref a)) = some _
    rw [kOf_at k2]
  · rw [List.getElem?_eq_none (by have := h.1; omega), List.getElem?_eq_none (by omega)]; rfl
theorem nodup_cast {l : List Nat} (h : l.Nodup) : (l.map (fun n : Nat => (n : Int))).Nodup := by
  rw [List.Nodup, List.pairwise_map]
  exact List.Pairwise.imp (fun {a b} ne e => ne (Int.ofNat.inj e)) h
theorem inj_of_nodup {α β : Type} {f : α → β} : ∀ {l : List α}, (l.map f).Nodup → ∀ x ∈ l, ∀ y ∈ l, f x = f y → x = y
  | [], _, x, hx, _, _, _ => by simp at hx
  | z :: l, nd, x, hx, y, hy, e => by
    rw [List.map_cons, List.nodup_cons] at nd
    rcases List.mem_cons.mp hx with h1 | h1
    · rcases List.mem_cons.mp hy with h2 | h2
      · rw [h1, h2]
      · exact absurd (List.mem_map.mpr ⟨y, h2, by rw [← e, h1]⟩) nd.1
    · rcases List.mem_cons.mp hy with h2 | h2
      · exact absurd (List.mem_map.mpr ⟨x, h1, by rw [e, h2]⟩) nd.1
      · exact inj_of_nodup nd.2 x h1 y h2 e
/-- sorted, all ints below n: 0 to n - 1 -/
theorem sorted_range {l : List Int} {ks : List Nat} {n : Nat} (hs : l.Pairwise (· ≤ ·)) (hp : l.Perm (ks.map fun n : Nat => (n : Int))) (nd : ks.Nodup) (lt : ∀ x ∈ ks, x < n) (len : ks.length = n) : l = (List.range n).map fun n : Nat => (n : Int) := by
  refine List.Perm.eq_of_pairwise (le := (· ≤ ·)) (fun a b _ _ h1 h2 => Int.le_antisymm h1 h2) hs ?_ (hp.trans (List.Perm.map _ ?_))
  · rw [List.pairwise_map]
    refine List.Pairwise.imp (fun {a b} h => ?_) (List.pairwise_lt_range (n := n))
    omega
  · rw [List.perm_ext_iff_of_nodup nd List.nodup_range]
    intro a
    rw [List.mem_range]
    exact ⟨lt a, pig_all nd lt len⟩
section
variable {P : Program} {w : World} {K : PySem.W.Frag} {mg : Str → Option Value} {base : Heap} {C C2 : Addr}

abbrev s_inverted : Stmt := topS 35
theorem sc_inverted : FnScope ["rows", "solver", "pivot", "row"] ["rows"] (defScope s_inverted) := ⟨rfl, rfl, rfl, by decide +kernel, rfl, by decide +kernel, by decide +kernel⟩
def sp_inverted (K : PySem.W.Frag) : Sp := fun vs H Q _ => ∃ (v : V) (A : List (List Rat)) (s : Int) (E m : Nat), vs = [v] ∧ Im K H v (mD A) ∧ Task s E m A.length A ∧ (∀ H', Same H H' → (solved A A.length).length < A.length → Q .non H') ∧
  ∀ p H', Same H H' → (solved A A.length).length = A.length → Im K H' (.ref p) (mD (invL A)) → Q (.ref p) H'
set_option maxHeartbeats 1000000 in
theorem ok_inverted {f : Addr} {fd : FuncData} {k : Nat} (F : Fun K "inverted" "inverted" s_inverted f fd) (T : Tx K mg C)(TS : Ts K mg C2) {ki : Nat} (I_Solver : Ini P w K mg base ki C ["self", "rows", "size"] (sp_init K C)) (hk : ki + 1 ≤ k) : FnOk P w K mg base CX0 (k + 1) f fd ["rows"] (sp_inverted K) := by
  have nd := sc_inverted.nd
  refine F.ok sc_inverted (fun vs H Q E h => ?_) (fun cdv A outer s H vs Q E hr h => ?_)
  · obtain ⟨_, _, _, _, _, rfl, _⟩ := h
    rfl
  · obtain ⟨v, M, sc, Ec, m, rfl, iv, t, q1, q2⟩ := h
    obtain ⟨a, xs, rfl, ha, hxs⟩ := mat_inv iv
    have lx : xs.length = M.length := all_len hxs
    have l48 := t.l48
    refine ⟨_, (pss_cons (ps_set (i := 1) nd rfl (.inl rfl) (pe_ini I_Solver (hr.mono (by omega)) (by rfl) T.c_Solver (pa_cons (pv 0) (pa_cons (pe_callB (kcall_len K) (by rfl) T.m_len PySem.boot_len (pa_cons (pv 0) pa_nil)) pa_nil))))
      (pss_cons (ps_if (pt_cmpR op_lt (pe_callB (kcall_len K) (by rfl) T.m_len PySem.boot_len (pa_cons (kpe_fld K (pv 1)) pa_nil)) (pe_callB (kcall_len K) (by rfl) T.m_len PySem.boot_len (pa_cons (pv 0) pa_nil)) (nomark _))
        (pss_one (ps_ret pe_non))
        pss_nil)
      (pss_one (ps_ret (pe_callTy (kcall_tuple K) (by rfl) T.m_tuple (by decide +kernel) (pa_cons (pe_lc (own := [("pivot", 2), ("row", 3)]) (g := _) (tt := tYes) rfl nd (kpi_list K (pe_callB (kcr_sortedK K) (by rfl) TS.m_sorted (by decide +kernel) (pa_cons (kpe_fld K (pv 1)) pa_nil))) (blkOk_by (by rfl)) (fun _ _ _ _ _ => (kpg_tup K (n := 2) rfl (pgs_cons (pg_name (i := 2) nd rfl (.inl rfl)) (pgs_cons (pg_name (i := 3) nd rfl (.inl rfl)) pgs_nil)))) (fun _ _ _ _ _ => pts_nil) (fun _ _ _ _ _ => (pe_callTy (kcall_tuple K) (by rfl) T.m_tuple (by decide +kernel) (pa_cons (pe_slice (ksl_list K) (pv 3) (po_some (pe_callB (kcall_len K) (by rfl) T.m_len PySem.boot_len (pa_cons (pv 0) pa_nil))) po_none) pa_nil)))) pa_nil)))))), ?_⟩
    refine ⟨.ref a, rfl, .ref a, rfl, a, xs, rfl, .inr ha.sq, fun x dx hx hdx ne => ?_⟩
    have smi : Same H (upd (upd H dx (.own x)) x (.ins C dx [])) := fun c o e => by
      rw [upd_ne (ne_of_none e hx), upd_ne (ne_of_none e hdx)]; exact e
    rw [lx]
    refine ⟨x, dx, a, M, M.length, sc, Ec, m, rfl, upd_same, Im.mono (tk_same smi) _ iv, t, fun H4 h b4 e4 hh4 => ⟨rfl, ?_⟩⟩
    have sm4 : Same H H4 := fun c o e => b4 c o (ne_of_none e hx) (smi c o e)
    obtain ⟨hs, eh, hacc⟩ := id hh4
    have lh := hacc.1
    have ha4 := ha.mono (tk_same sm4)
    refine ⟨.ref x, rfl, x, C, dx, _, _, rfl, e4, T.cl, T.a_held, rfl, h, hs, rfl, .inl (.of eh), .ref a, rfl, a, xs, rfl, .inr ha4.sq, _, _, rfl, rfl, _, rfl, ?_⟩
    obtain ⟨taken, R⟩ := t.ok.whole
    have le := R.le_size
    by_cases hlt : (solved M M.length).length < M.length
    · rw [decide_eq_true (show (hs.length : Int) < (xs.length : Int) by omega)]
      exact iteT (q1 H4 sm4 hlt)
    · rw [decide_eq_false (show ¬ (hs.length : Int) < (xs.length : Int) by omega)]
      have eqn : (solved M M.length).length = M.length := by omega
      refine iteF ?_
      have keys := hacc_keys hacc
      have pnd := R.pivs
      have keys2 : hs.map (kOf H4) = ((solved M M.length).map (·.1)).map (fun n : Nat => (n : Int)) := by rw [keys, List.map_map]; rfl
      refine ⟨.ref x, rfl, x, C, dx, _, _, rfl, e4, T.cl, T.a_held, rfl, h, hs, kOf H4, rfl, .of eh, fun y hy => ?_, ?_, fun ys p pw pm hp => ?_⟩
      · obtain ⟨b, c, j, r, rfl, k2, k3, _⟩ := hacc_mem hacc hy
        rw [kOf_at k2]
        exact ⟨b, c, rfl, k2⟩
      · refine inj_of_nodup ?_
        rw [keys2]
        exact nodup_cast pnd
      · have sm5 : Same H4 (upd H4 p (.lst ys)) := same_new hp
        have e5 : (upd H4 p (.lst ys)) p = some (.lst ys) := upd_same
        generalize upd H4 p (.lst ys) = G5 at *
        have ly : ys.length = M.length := by rw [pm.length_eq, lh, eqn]
        have rng : ys.map (kOf H4) = (List.range M.length).map fun n : Nat => (n : Int) := by
          refine sorted_range (n := M.length) (ks := (solved M M.length).map (·.1)) (List.pairwise_map.mpr pw) ?_ pnd (fun z hz => ?_) (by rw [List.length_map]; exact eqn)
          · rw [← keys2]; exact pm.map _
          · obtain ⟨y, hy, rfl⟩ := List.mem_map.mp hz
            exact R.piv_lt y hy
        refine ⟨p, rfl, ⟨ys, .of e5⟩, fun D hD => ?_⟩
        refine lc_all (walk_list (xs := ys)) (fun j H2 => Same G5 H2 ∧ ∃ acc, H2 D = some (.lst acc) ∧ ImAll K H2 acc (((invL M).take j).map vD)) ⟨same_new hD, [], upd_same, .nil⟩ (fun j H2 _ z => .of (z.1 _ _ e5)) (fun j y H2 H3 hj z yy => ?_) (fun H2 z => ?_)
        · obtain ⟨sm, acc, eD, ia⟩ := z
          obtain ⟨rfl, hy⟩ := yy
          have hy' : y ∈ hs := pm.mem_iff.mp (List.mem_of_getElem? hy)
          obtain ⟨b, c, pv, r, rfl, k2, k3, km⟩ := hacc_mem hacc hy'
          have epv : pv = j := by
            have h1 : (ys.map (kOf H4))[j]? = some (pv : Int) := by
              rw [List.getElem?_map, hy]
              show some (kOf H4 (.ref b)) = _
              rw [kOf_at k2]
            rw [rng, List.getElem?_map, List.getElem?_range (by omega)] at h1
            have h2 : ((j : Nat) : Int) = (pv : Int) := Option.some.inj h1
            omega
          subst epv
          have er : rowAt (solved M M.length) pv = r := rowAt_eq pnd km
          have sm6 := sm5.trans sm
          have lr : r.length = M.length + M.length := R.len _ km
          obtain ⟨ws, ew, iw⟩ := k3.same sm6
          have lw : ws.length = M.length + M.length := by rw [all_len iw, lr]
          refine ⟨b, _, rfl, .of (sm6 _ _ k2), rfl, .int pv, _, rfl, .ref c, _, rfl, rfl, rfl, ?_⟩
          refine ⟨.ref c, rfl, .ref a, rfl, a, xs, rfl, .inr (ha4.mono (tk_same sm6)).sq, xs.length, rfl, c, ws, rfl, .of ew, fun l hl => ?_⟩
          rw [lx, cut_drop (by omega)]
          have sm7 : Same H3 (upd H3 l (.lst (ws.drop M.length))) := same_new hl
          have e7 : (upd H3 l (.lst (ws.drop M.length))) l = some (.lst (ws.drop M.length)) := upd_same
          generalize upd H3 l (.lst (ws.drop M.length)) = G7 at *
          have iw7 := all_drop (n := M.length) (ImAll.mono (tk_same sm7) _ iw)
          refine ⟨l, _, rfl, .inl ⟨.of e7, fun l2 hl2 => ?_⟩⟩
          have sm8 : Same G7 (upd G7 l2 (.tup (ws.drop M.length))) := same_new hl2
          have i8 : Im K (upd G7 l2 (.tup (ws.drop M.length))) (.ref l2) (vD (r.drop M.length)) := .tup (.inl upd_same) (ImAll.mono (tk_new hl2) _ iw7)
          generalize upd G7 l2 (.tup (ws.drop M.length)) = G8 at *
          have eD8 := sm8 _ _ (sm7 _ _ eD)
          have lacc : acc.length = pv := by rw [all_len ia, List.length_take]; unfold invL; rw [List.length_map, List.length_range]; omega
          have hget : (invL M)[pv]? = some (r.drop M.length) := by
            unfold invL
            rw [List.getElem?_map, List.getElem?_range (by omega), ← er]; rfl
          refine ⟨acc, eD8, small1000 (by omega), fun b' o e => ?_, acc ++ [.ref l2], upd_same, ?_⟩
          · rw [upd_ne (ne_of_none e hD)]
            exact sm8 _ _ (sm7 _ _ (sm _ _ e))
          · exact all_snoc (ImAll.mono ((tk_same (sm7.trans sm8)).trans (tk_lst eD8)) _ ia) hget (Im.mono (tk_lst eD8) _ i8)
        · obtain ⟨sm, acc, eD, ia⟩ := z
          rw [List.take_of_length_le (by unfold invL; rw [List.length_map, List.length_range]; omega)] at ia
          have sm0 := (sm4.trans sm5).trans sm
          exact ⟨D, acc, rfl, .inl ⟨.of eD, fun l hl2 => q2 l _ (sm0.trans (same_new hl2)) eqn (.tup (.inl upd_same) (ImAll.mono (tk_new hl2) _ ia))⟩⟩

abbrev s_inverse : Stmt := topS 38
theorem sc_inverse : FnScope ["rows", "found"] ["rows"] (defScope s_inverse) := ⟨rfl, rfl, rfl, by decide +kernel, rfl, by decide +kernel, by decide +kernel⟩
def sp_inverse (K : PySem.W.Frag) (er : Er) : Sp := fun vs H Q E => ∃ (S : Addr → Prop) (v1 : V) (d1 : PyData), vs = [v1] ∧ Da K S H v1 d1 ∧ (jMat d1 = true → oblong d1 = false → Inver d1) ∧
  ∀ H', Same H H' → (jMat d1 = false → E (.ref er.m) none H') ∧ (jMat d1 = true → oblong d1 = true → E (.ref er.u) none H') ∧
    (∀ A, jMat d1 = true → d1 = mD A → oblong d1 = false → (solved A A.length).length < A.length → E (.ref er.s) none H') ∧
    ∀ p A, jMat d1 = true → d1 = mD A → oblong d1 = false → (solved A A.length).length = A.length → Im K H' (.ref p) (mD (invL A)) → Q (.ref p) H'
set_option maxHeartbeats 1000000 in
theorem ok_inverse {f : Addr} {fd : FuncData} {k : Nat} (F : Fun K "inverse" "inverse" s_inverse f fd) (T : Tx K mg C){er : Er} (TE : Tr K mg er) {ki : Nat} (D_need_matrix : DefX P w K mg base ki "need_matrix" s_need_matrix ["thing"] (sp_need_matrix K er)) {kj : Nat} (D_inverted : Def P w K mg base kj "inverted" s_inverted ["rows"] (sp_inverted K)) (hk : ki ≤ k) (hj : kj ≤ k) : FnOk P w K mg base (L2.CX P w) (k + 1) f fd ["rows"] (sp_inverse K er) := by
  have nd := sc_inverse.nd
  refine F.okX sc_inverse (fun vs H Q E h => ?_) (fun cdv A outer s H vs Q E hr h => ?_)
  · obtain ⟨_, _, _, rfl, _⟩ := h
    rfl
  · obtain ⟨S, v1, d1, rfl, a1, iv0, q⟩ := h
    refine ⟨_, (pss_cons (ps_expr (pe_defX D_need_matrix (takes_of rfl rfl rfl rfl) (hr.mono (by omega)) rfl (pa_cons (pv 0) pa_nil)))
      (C8.pss_cut (ps_if (PW.pt (pw_and (pt_truth (pv 0) (by intro _; rfl)) (pw_and1 (pt_cmpR op_ne (pe_callB (kcall_len K) (by rfl) T.m_len PySem.boot_len (pa_cons (pe_ix (kix_tup K) (pv 0) pe_int (fun _ _ => rfl)) pa_nil)) (pe_callB (kcall_len K) (by rfl) T.m_len PySem.boot_len (pa_cons (pv 0) pa_nil)) (nomark _)))))
        (pss_one (ps_raise rfl (takes_of rfl rfl rfl rfl) (pmk_own PySem.F.excBase_ValueError TE.x_Unlike TE.g_Unlike TE.k_Unlike (raises_own TE.b_Unlike TE.t_Unlike) rfl)))
        pss_nil)
      (pss_cons (ps_set (i := 1) nd rfl (.inl rfl) (pe_def D_inverted (hr.mono (by omega)) rfl (pa_cons (pv 0) pa_nil)))
      (pss_cons (ps_if (pt_cmp (pc_isN (pv 1)))
        (pss_one (ps_raise rfl (takes_of rfl rfl rfl rfl) (pmk_own PySem.F.excBase_ValueError TE.x_Singular TE.g_Singular TE.k_Singular (raises_own TE.b_Singular TE.t_Singular) rfl)))
        pss_nil)
      (pss_one (ps_ret (pv 1))))))), ?_⟩
    refine ⟨v1, rfl, v1, d1, rfl, a1.dp, fun H1 sm1 => ?_⟩
    cases j1 : jMat d1 with
    | false => exact iteF ((q H1 sm1).1 j1)
    | true =>
    refine iteT ?_
    obtain ⟨M, rfl, l48, hlen, w48⟩ := mat_of j1
    have i1 := Im.mono (tk_same sm1) _ (a1.im _ (noL_mat M))
    obtain ⟨a, xs, rfl, ha, hxs⟩ := mat_inv i1
    have lx : xs.length = M.length := all_len hxs
    refine ⟨fun σ' H' => σ' = [some (.ref a), none] ∧ H' = H1 ∧ oblong (mD M) = false, ?_, ?_⟩
    · refine ⟨.ref a, rfl, !xs.isEmpty, .inr (.inl ⟨xs, ha.sq, rfl⟩), ?_⟩
      cases hM : M with
      | nil =>
        have e : xs = [] := by
          cases xs with
          | nil => rfl
          | cons _ _ => rw [hM] at lx; simp at lx
        rw [e]
        exact iteF (iteF ⟨rfl, rfl, rfl⟩)
      | cons r rs =>
        have h0 : 0 < xs.length := by rw [lx, hM]; simp
        have e : (!xs.isEmpty) = true := by
          cases xs with
          | nil => simp at h0
          | cons _ _ => rfl
        rw [e]
        have hr0 : M[0]? = some r := by rw [hM]; rfl
        obtain ⟨y0, hy0, i0⟩ := all_at hxs hr0
        obtain ⟨c, zs, rfl, hc, hzs⟩ := vec_inv i0
        refine iteT ⟨.ref a, rfl, a, xs, 0, _, rfl, rfl, ha.sq, atI_nat (j := 0) hy0, c, zs, rfl, .inr hc.sq, .ref a, rfl, a, xs, rfl, .inr ha.sq, rfl, _, rfl, ?_⟩
        have lz : zs.length = r.length := all_len hzs
        have lxx : xs.length = (r :: rs).length := by rw [lx, hM]
        have em : oblong (mD (r :: rs)) = decide (r.length ≠ (r :: rs).length) := by
          show decide ((r.map rD).length ≠ ((vD r) :: (rs.map vD)).length) = _
          rw [List.length_map, List.length_cons, List.length_map, List.length_cons]
        by_cases el : r.length = (r :: rs).length
        · rw [show zs.length = xs.length by rw [lz, lxx, el]]
          refine iteNS rfl ⟨rfl, rfl, ?_⟩
          rw [em]
          exact decide_eq_false (fun z => z el)
        · have hne : ¬ (V.int (zs.length : Nat) = V.int (xs.length : Nat)) := fun z => el (by have := V.int.inj z; omega)
          rw [decide_eq_false hne]
          refine iteT ((q H1 sm1).2.1 j1 ?_)
          rw [hM, em]
          exact decide_eq_true el
    · rintro σ' H' ⟨rfl, rfl, ob⟩
      obtain ⟨sc, Ec, m, t⟩ := iv0 j1 ob M rfl
      refine ⟨.ref a, rfl, .ref a, M, sc, Ec, m, rfl, i1, t, fun H2 sm2 lt => ?_, fun p H2 sm2 eq ip => ?_⟩
      · exact ⟨_, rfl, _, rfl, iteT ((q H2 (sm1.trans sm2)).2.2.1 M j1 rfl ob lt)⟩
      · exact ⟨_, rfl, _, rfl, iteF ⟨.ref p, rfl, (q H2 (sm1.trans sm2)).2.2.2 p M j1 rfl ob eq ip⟩⟩
end
end K42

set_option Elab.async false
set_option linter.all false
set_option maxRecDepth 100000
set_option exponentiation.threshold 20000
namespace K42
open PySem PySem.Spec PyProof.Rows L2 Ly Mt El
/-- a source of draws at c, its numbers at L; as many draws as n are let -/
def Cup (H : Hp) (c L : Addr) (n : Nat) : Prop := ∃ (a b k : Int) (ns : List Int), H c = some (.lst [.int a, .int b, .int k, .ref L]) ∧ H L = some (.lst (ns.map V.int)) ∧ 0 ≤ a ∧ 0 ≤ b ∧ b < 2 ^ 40 ∧ 0 ≤ k ∧ k + n ≤ 2 ^ 40 ∧ c ≠ L
/-- what a draw leaves as it was -/
def But (c L : Addr) (H H' : Hp) : Prop := ∀ b o, b ≠ c → b ≠ L → H b = some o → H' b = some o
theorem But.refl (c L : Addr) (H : Hp) : But c L H H := fun _ _ _ _ h => h
theorem But.trans {c L : Addr} {H H1 H2 : Hp} (a : But c L H H1) (b : But c L H1 H2) : But c L H H2 := fun x o h1 h2 h => b x o h1 h2 (a x o h1 h2 h)
theorem but_same {c L : Addr} {H H' : Hp} (s : Same H H') : But c L H H' := fun b o _ _ h => s b o h
theorem But.tk {c L : Addr} {H H' : Hp} {n : Nat} (s : But c L H H') (u : Cup H c L n) : TK H H' := fun b xs e => by
  obtain ⟨_, _, _, _, h1, h2, _⟩ := u
  refine s b _ (fun z => ?_) (fun z => ?_) e
  · subst z; rw [h1] at e; cases e
  · subst z; rw [h2] at e; cases e
theorem Cup.same {c L : Addr} {H H' : Hp} {n : Nat} (u : Cup H c L n) (s : Same H H') : Cup H' c L n := by
  obtain ⟨a, b, k, ns, h1, h2, r⟩ := u
  exact ⟨a, b, k, ns, s _ _ h1, s _ _ h2, r⟩
theorem Cup.less {c L : Addr} {H : Hp} {n m : Nat} (u : Cup H c L n) (h : m ≤ n) : Cup H c L m := by
  obtain ⟨a, b, k, ns, h1, h2, h3, h4, h5, h6, h7, h8⟩ := u
  exact ⟨a, b, k, ns, h1, h2, h3, h4, h5, h6, by omega, h8⟩
theorem fmod_in {x m : Int} (h : 0 < m) : 0 ≤ x.fmod m ∧ x.fmod m < m := by
  rw [Int.fmod_eq_emod_of_nonneg _ (by omega)]
  exact ⟨Int.emod_nonneg _ (by omega), Int.emod_lt_of_pos _ h⟩
theorem abs_lt {x : Int} {n : Nat} (h0 : 0 ≤ x) (h : x < 2 ^ n) : x.natAbs < 2 ^ n := by
  have e : ((x.natAbs : Nat) : Int) < ((2 ^ n : Nat) : Int) := by
    rw [Int.natCast_pow]; show ((x.natAbs : Nat) : Int) < (2 : Int) ^ n; omega
  exact Int.ofNat_lt.mp e
section
variable {P : Program} {w : World} {K : PySem.W.Frag} {mg : Str → Option Value} {base : Heap} {C : Addr}

abbrev s__law_cup : Stmt := topS 41
theorem sc__law_cup : FnScope ["script", "blend", "cell"] ["script"] (defScope s__law_cup) := ⟨rfl, rfl, rfl, by decide +kernel, rfl, by decide +kernel, by decide +kernel⟩
def sp_cup (K : PySem.W.Frag) : Sp := fun vs H Q _ => ∃ (a : Addr) (ns : List Int), vs = [.ref a] ∧ SqL K H a (ns.map V.int) ∧ ns.length ≤ 63 ∧ ∀ c L H', Same H H' → H c = none → H L = none → Cup H' c L (2 ^ 39) → Q (.ref c) H'
theorem ok__law_cup {f : Addr} {fd : FuncData} {k : Nat} (F : Fun K "_law_cup" "_law_cup" s__law_cup f fd) (T : Tx K mg C) : FnOk P w K mg base CX0 (k + 1) f fd ["script"] (sp_cup K) := by
  have nd := sc__law_cup.nd
  refine F.ok sc__law_cup (fun vs H Q E h => ?_) (fun cdv A outer s H vs Q E hr h => ?_)
  · obtain ⟨_, _, rfl, _⟩ := h
    rfl
  · obtain ⟨a, ns, rfl, hS, hl, q⟩ := h
    refine ⟨_, (pss_cons (ps_set (i := 1) nd rfl (.inl rfl) pe_int)
      (pss_cons (ps_for PassesOwn.never rfl (kpi_list K (pv 0)) (pg_name (i := 2) nd rfl (.inl rfl))
        (pss_one (ps_set (i := 1) nd rfl (.inl rfl) (pe_op op_add (pe_op op_modN (pe_callTy call_int1 (by rfl) T.m_int (by decide +kernel) (pa_cons (pe_op op_add (pe_op op_mulW (pv 1) pe_int) (pv 2)) pa_nil)) pe_int) pe_int))))
      (pss_one (ps_ret (pe_lst (pa_cons pe_int (pa_cons (pv 1) (pa_cons pe_int (pa_cons (pe_callTy (kcall_list K) (by rfl) T.m_list (by decide +kernel) (pa_cons (pv 0) pa_nil)) pa_nil))))))))), ?_⟩
    refine ⟨.ref a, rfl, a, rfl, ⟨_, hS⟩, ?_⟩
    refine for_it (walk_list (xs := ns.map V.int)) (fun i σ H2 => H2 = H ∧ ∃ b y2, σ = [some (.ref a), some (.int b), y2] ∧ 0 ≤ b ∧ b < 2 ^ 40) ⟨rfl, 1, none, rfl, by decide, by decide⟩ (fun i σ H2 _ z => by rw [z.1]; exact hS) ?_ ?_
    · rintro i x σ H2 H3 hi ⟨rfl, b, y2, rfl, b0, b1⟩ ⟨rfl, hx⟩
      obtain ⟨v, hv, rfl⟩ : ∃ v, ns[i]? = some v ∧ V.int v = x := by
        rw [List.getElem?_map] at hx
        cases h : ns[i]? with
        | none => rw [h] at hx; simp at hx
        | some v => rw [h] at hx; exact ⟨v, rfl, by simpa using hx⟩
      refine ⟨.int b, rfl, _, _, rfl, rfl, wide_mul (abs_lt b0 b1) (show (31 : Int).natAbs < 2 ^ 5 by decide) (by decide) (by decide) (by decide), .int v, rfl, _, _, rfl, rfl, .inl ⟨_, rfl, _, _, rfl, rfl, (by show (2147483629 : Int) ≠ 0; decide), _, _, rfl, rfl, rfl, ?_⟩⟩
      have h := fmod_in (x := b * 31 + v) (m := 2147483629) (by decide)
      exact ⟨_, _, rfl, by omega, by omega⟩
    · rintro σ H2 ⟨rfl, b, y2, rfl, b0, b1⟩
      refine ⟨.int b, rfl, .ref a, rfl, a, _, rfl, .inl hS, fun l hl2 => ⟨by show 4 ≤ sizeLine; decide, fun p hp => ?_⟩⟩
      have hne : l ≠ p := ne_of_none upd_same hp
      refine q p l _ ((same_new hl2).trans (same_new hp)) ((same_new hl2).free hp) hl2 ⟨0, b, 0, ns, upd_same, ?_, by omega, b0, b1, by omega, by decide, hne.symm⟩
      rw [upd_ne hne, upd_same]

abbrev s__law_sip : Stmt := topS 42
theorem sc__law_sip : FnScope ["cup", "many", "size", "drawn"] ["cup", "many"] (defScope s__law_sip) := ⟨rfl, rfl, rfl, by decide +kernel, rfl, by decide +kernel, by decide +kernel⟩
def sp_sip : Sp := fun vs H Q _ => ∃ (c L : Addr) (m : Int) (n : Nat), vs = [.ref c, .int m] ∧ Cup H c L (n + 1) ∧ 0 < m ∧ m < 2 ^ 140 ∧ ∀ d H', 0 ≤ d → d < m → Cup H' c L n → But c L H H' → Q (.int d) H'
theorem ok__law_sip {f : Addr} {fd : FuncData} {k : Nat} (F : Fun K "_law_sip" "_law_sip" s__law_sip f fd) (T : Tx K mg C) : FnOk P w K mg base CX0 (k + 1) f fd ["cup", "many"] sp_sip := by
  have nd := sc__law_sip.nd
  refine F.ok sc__law_sip (fun vs H Q E h => ?_) (fun cdv A outer s H vs Q E hr h => ?_)
  · obtain ⟨_, _, _, _, rfl, _⟩ := h
    rfl
  · obtain ⟨c, L, m, n, rfl, u, m0, m1, q⟩ := h
    refine ⟨_, (C8.pss_cut (ps_if (PW.pt (pw_and (pt_cmpR op_eq (pe_ix (kix_list K) (pv 0) pe_int (fun _ _ => rfl)) pe_int (nomark _)) (pw_and1 (pt_cmpR (kop_neD K hr.units) (pe_ix (kix_list K) (pv 0) pe_int (fun _ _ => rfl)) (pe_lst pa_nil) (nomark _)))))
        (pss_cons (ps_set (i := 2) nd rfl (.inl rfl) (pe_callB call_abs (by rfl) T.m_abs (by decide +kernel) (pa_cons (pe_callTy call_int1 (by rfl) T.m_int (by decide +kernel) (pa_cons (pe_bm PySem.F.plainAttrs_list PySem.F.slot_list_pop PySem.F.type_list_pop mt_popAt (pe_ix (kix_list K) (pv 0) pe_int (fun _ _ => rfl)) (pa_cons pe_int pa_nil)) pa_nil)) pa_nil)))
        (pss_one (ps_asg (pe_ifExp (pt_cmpR op_ge (pv 2) (pe_op op_pow pe_int pe_int) (nomark _)) (pv 2) (pe_op op_add (pe_op op_mulW (pe_op op_fdivW (pe_op op_mulW (pv 2) (pv 2)) pe_int) pe_int) (pv 2))) (pg_sub (pv 0) pe_int set_list))))
        pss_nil)
      (pss_cons (ps_if (pt_cmpR op_gt (pe_ix (kix_list K) (pv 0) pe_int (fun _ _ => rfl)) pe_int (nomark _))
        (pss_cons (ps_set (i := 3) nd rfl (.inl rfl) (pe_op op_modN (pe_callTy call_int1 (by rfl) T.m_int (by decide +kernel) (pa_cons (pe_ix (kix_list K) (pv 0) pe_int (fun _ _ => rfl)) pa_nil)) (pv 1)))
        (pss_cons (ps_asg (pe_op op_fdivW (pe_ix (kix_list K) (pv 0) pe_int (fun _ _ => rfl)) (pv 1)) (pg_sub (pv 0) pe_int set_list))
        (pss_one (ps_ret (pv 3)))))
        pss_nil)
      (pss_cons (ps_asg (pe_op op_add (pe_ix (kix_list K) (pv 0) pe_int (fun _ _ => rfl)) pe_int) (pg_sub (pv 0) pe_int set_list))
      (pss_cons (ps_asg (pe_op op_modN (pe_callTy call_int1 (by rfl) T.m_int (by decide +kernel) (pa_cons (pe_op op_add (pe_op op_add (pe_op op_mulW (pe_ix (kix_list K) (pv 0) pe_int (fun _ _ => rfl)) pe_int) (pe_op op_mulW (pe_op op_mulW (pe_ix (kix_list K) (pv 0) pe_int (fun _ _ => rfl)) (pe_ix (kix_list K) (pv 0) pe_int (fun _ _ => rfl))) pe_int)) pe_int) pa_nil)) pe_int) (pg_sub (pv 0) pe_int set_list))
      (pss_one (ps_ret (pe_op op_modN (pe_op op_fdivW (pe_op op_modN (pe_callTy call_int1 (by rfl) T.m_int (by decide +kernel) (pa_cons (pe_op op_mulW (pe_ix (kix_list K) (pv 0) pe_int (fun _ _ => rfl)) (pe_op op_add (pe_op op_fdivW (pe_ix (kix_list K) (pv 0) pe_int (fun _ _ => rfl)) pe_int) pe_int)) pa_nil)) pe_int) pe_int) (pv 1)))))))), ?_⟩
    refine ⟨fun σ' H' => ∃ y2, σ' = [some (.ref c), some (.int m), y2, none] ∧ Cup H' c L (n + 1) ∧ But c L H H', ?_, ?_⟩
    · obtain ⟨a, b, k', ns, hc, hL, a0, b0, b1, k0, k1, ne⟩ := id u
      refine ⟨.ref c, rfl, c, _, 0, _, rfl, rfl, .of hc, atI_nat (j := 0) rfl, rfl, _, rfl, ?_⟩
      by_cases ha : a = 0
      · rw [decide_eq_true (show V.int a = V.int 0 by rw [ha])]
        refine iteT ⟨.ref c, rfl, c, _, 3, _, rfl, rfl, .of hc, atI_nat (j := 3) rfl, by show 0 ≤ sizeLine; decide, fun e he => ?_⟩
        have hc2 : (upd H e (.lst [])) c = some (.lst [.int a, .int b, .int k', .ref L]) := by rw [upd_ne (ne_of_none hc he)]; exact hc
        have hL2 : (upd H e (.lst [])) L = some (.lst (ns.map V.int)) := by rw [upd_ne (ne_of_none hL he)]; exact hL
        have bt : But c L H (upd H e (.lst [])) := but_same (same_new he)
        refine ⟨_, _, .lst (.of hL2) (dp_ints ns), .lst (.of upd_same) (.nil), shaped_ints ns, shaped_ints [], ?_⟩
        rw [eqv_ints_nil]
        cases hns : ns with
        | nil =>
          subst ha hns
          exact ⟨false, rfl, iteF ⟨none, rfl, u.same (same_new he), bt⟩⟩
        | cons v r =>
          rw [hns] at hL2
          refine ⟨true, rfl, iteT ?_⟩
          refine ⟨.ref c, rfl, c, _, 3, _, rfl, rfl, .of hc2, atI_nat (j := 3) rfl, .inl ⟨rfl, _, .of hL2⟩, L, _, 0, 0, .int v, rfl, rfl, hL2, by decide, by decide, ?_, rfl, .inl ⟨_, rfl, _, rfl, ?_⟩⟩
          · show seqIndex? 0 ((v :: r).map V.int).length = some 0
            unfold seqIndex?
            simp
          have hc3 : (upd (upd H e (.lst [])) L (.lst (((v :: r).map V.int).eraseIdx 0))) c = some (.lst [.int a, .int b, .int k', .ref L]) := by rw [upd_ne ne]; exact hc2
          have hL3 : (upd (upd H e (.lst [])) L (.lst (((v :: r).map V.int).eraseIdx 0))) L = some (.lst (r.map V.int)) := by rw [upd_same]; rfl
          have b3 : But c L H (upd (upd H e (.lst [])) L (.lst (((v :: r).map V.int).eraseIdx 0))) := fun x o h1 h2 h => by rw [upd_ne h2]; exact bt x o h1 h2 h
          generalize hG : upd (upd H e (.lst [])) L (.lst (((v :: r).map V.int).eraseIdx 0)) = G at *
          generalize hz : (if v < 0 then -v else v) = z
          have z0 : 0 ≤ z := by rw [← hz]; split <;> omega
          have fin : ∀ x : Int, 0 ≤ x → ∃ y2, [some (V.ref c), some (.int m), some (.int z), none] = [some (V.ref c), some (.int m), y2, none] ∧ Cup (upd G c (.lst [.int x, .int b, .int k', .ref L])) c L (n + 1) ∧ But c L H (upd G c (.lst [.int x, .int b, .int k', .ref L])) := by
            intro x x0
            refine ⟨_, rfl, ⟨x, b, k', r, upd_same, ?_, x0, b0, b1, k0, k1, ne⟩, fun y o h1 h2 h => ?_⟩
            · rw [upd_ne ne.symm]; exact hL3
            · rw [upd_ne h1]; exact b3 y o h1 h2 h
          have p18 : (10 : Int) ^ (18 : Int).toNat = 1000000000000000000 := by decide
          refine ⟨.int z, rfl, _, _, rfl, rfl, ⟨by decide, by decide, by decide⟩, _, _, rfl, rfl, _, rfl, ?_⟩
          rw [p18]
          by_cases hbig : z ≥ 1000000000000000000
          · rw [decide_eq_true hbig]
            exact iteT ⟨.int z, rfl, .ref c, rfl, c, _, 0, 0, rfl, rfl, hc3, rfl, fin z z0⟩
          · rw [decide_eq_false hbig]
            have zb : z.natAbs < 2 ^ 60 := abs_lt z0 (by omega)
            have zz : (z * z).natAbs < 2 ^ 120 := lt_mul zb zb
            have zq0 : 0 ≤ z * z / 97 := Int.ediv_nonneg (Int.mul_nonneg z0 z0) (by decide)
            have zq : (z * z / 97).natAbs < 2 ^ 120 := Nat.lt_of_le_of_lt (Int.natAbs_ediv_le_natAbs _ _) zz
            refine iteF ⟨.int z, rfl, .int z, rfl, _, _, rfl, rfl, wide_mul zb zb (by decide) (by decide) (by decide), _, _, rfl, rfl, wide_div (b := 7) (by decide) (by decide) (by decide) (by decide), _, _, rfl, rfl, wide_mul (b := 16) zq (by decide) (by decide) (by decide) (by decide), .int z, rfl, _, _, rfl, rfl, ?_⟩
            exact ⟨.ref c, rfl, c, _, 0, 0, rfl, rfl, hc3, rfl, fin _ (Int.add_nonneg (Int.mul_nonneg zq0 (by decide)) z0)⟩
      · rw [decide_eq_false (show ¬ V.int a = V.int 0 from fun z => ha (V.int.inj z))]
        exact iteF ⟨none, rfl, u, But.refl c L H⟩
    · rintro σ' H' ⟨y2, rfl, u', bt⟩
      obtain ⟨a, b, k', ns, hc, hL, a0, b0, b1, k0, k1, ne⟩ := id u'
      have mabs : m.natAbs < 2 ^ 140 := abs_lt (by omega) m1
      refine ⟨.ref c, rfl, c, _, 0, _, rfl, rfl, .of hc, atI_nat (j := 0) rfl, _, _, rfl, rfl, _, rfl, ?_⟩
      by_cases ha : a > 0
      · rw [decide_eq_true ha]
        refine iteT ⟨.ref c, rfl, c, _, 0, _, rfl, rfl, .of hc, atI_nat (j := 0) rfl, .inl ⟨_, rfl, .int m, rfl, _, _, rfl, rfl, (by show m ≠ 0; omega), ?_⟩⟩
        refine ⟨.ref c, rfl, c, _, 0, _, rfl, rfl, .of hc, atI_nat (j := 0) rfl, .int m, rfl, _, _, rfl, rfl, wide_div m0 mabs (by decide) (by decide), .ref c, rfl, c, _, 0, 0, rfl, rfl, hc, rfl, ?_⟩
        have h := fmod_in (x := a) m0
        refine ⟨_, rfl, q _ _ h.1 h.2 ⟨a / m, b, k', ns, upd_same, ?_, Int.ediv_nonneg a0 (by omega), b0, b1, k0, by omega, ne⟩ fun y o h1 h2 h => ?_⟩
        · rw [upd_ne ne.symm]; exact hL
        · rw [upd_ne h1]; exact bt y o h1 h2 h
      · rw [decide_eq_false ha]
        have kb : (k' + 1).natAbs < 2 ^ 41 := abs_lt (by omega) (by omega)
        have bb : b.natAbs < 2 ^ 40 := abs_lt b0 b1
        refine iteF ⟨.ref c, rfl, c, _, 2, _, rfl, rfl, .of hc, atI_nat (j := 2) rfl, _, _, rfl, rfl, .ref c, rfl, c, _, 2, 2, rfl, rfl, hc, rfl, ?_⟩
        have hc2 : (upd H' c (.lst [.int a, .int b, .int (k' + 1), .ref L])) c = some (.lst [.int a, .int b, .int (k' + 1), .ref L]) := upd_same
        have hL2 : (upd H' c (.lst [.int a, .int b, .int (k' + 1), .ref L])) L = some (.lst (ns.map V.int)) := by rw [upd_ne ne.symm]; exact hL
        have bt2 : But c L H (upd H' c (.lst [.int a, .int b, .int (k' + 1), .ref L])) := fun y o h1 h2 h => by rw [upd_ne h1]; exact bt y o h1 h2 h
        show tSeq _ _ _ _ (upd H' c (.lst [.int a, .int b, .int (k' + 1), .ref L]))
        generalize upd H' c (.lst [.int a, .int b, .int (k' + 1), .ref L]) = G at *
        have kk : ((k' + 1) * (k' + 1)).natAbs < 2 ^ 82 := lt_mul kb kb
        refine ⟨.ref c, rfl, c, _, 1, _, rfl, rfl, .of hc2, atI_nat (j := 1) rfl, _, _, rfl, rfl, wide_mul (b := 15) bb (by decide) (by decide) (by decide) (by decide), ?_⟩
        refine ⟨.ref c, rfl, c, _, 2, _, rfl, rfl, .of hc2, atI_nat (j := 2) rfl, .ref c, rfl, c, _, 2, _, rfl, rfl, .of hc2, atI_nat (j := 2) rfl, _, _, rfl, rfl, wide_mul kb kb (by decide) (by decide) (by decide), _, _, rfl, rfl, wide_mul (b := 13) kk (by decide) (by decide) (by decide) (by decide), _, _, rfl, rfl, _, _, rfl, rfl, .inl ⟨_, rfl, _, _, rfl, rfl, (by show (2147483647 : Int) ≠ 0; decide), ?_⟩⟩
        have hr2 := fmod_in (x := b * 16807 + (k' + 1) * (k' + 1) * 4099 + 77) (m := 2147483647) (by decide)
        refine ⟨.ref c, rfl, c, _, 1, 1, rfl, rfl, hc2, rfl, ?_⟩
        have hc3 : (upd G c (.lst [.int a, .int ((b * 16807 + (k' + 1) * (k' + 1) * 4099 + 77).fmod 2147483647), .int (k' + 1), .ref L])) c = some (.lst [.int a, .int ((b * 16807 + (k' + 1) * (k' + 1) * 4099 + 77).fmod 2147483647), .int (k' + 1), .ref L]) := upd_same
        have bt3 : But c L H (upd G c (.lst [.int a, .int ((b * 16807 + (k' + 1) * (k' + 1) * 4099 + 77).fmod 2147483647), .int (k' + 1), .ref L])) := fun y o h1 h2 h => by rw [upd_ne h1]; exact bt2 y o h1 h2 h
        have hL3 : (upd G c (.lst [.int a, .int ((b * 16807 + (k' + 1) * (k' + 1) * 4099 + 77).fmod 2147483647), .int (k' + 1), .ref L])) L = some (.lst (ns.map V.int)) := by rw [upd_ne ne.symm]; exact hL2
        dsimp only [List.set]
        generalize hx : (b * 16807 + (k' + 1) * (k' + 1) * 4099 + 77).fmod 2147483647 = x at *
        generalize upd G c (.lst [.int a, .int x, .int (k' + 1), .ref L]) = G3 at *
        have xb : x.natAbs < 2 ^ 31 := abs_lt hr2.1 (by omega)
        have x5 : (x / 1009 + 5).natAbs < 2 ^ 32 := by
          have h1 : 0 ≤ x / 1009 := Int.ediv_nonneg hr2.1 (by decide)
          have h2 : x / 1009 ≤ x := Int.ediv_le_self _ hr2.1
          exact abs_lt (by omega) (by omega)
        refine ⟨.ref c, rfl, c, _, 1, _, rfl, rfl, .of hc3, atI_nat (j := 1) rfl, .ref c, rfl, c, _, 1, _, rfl, rfl, .of hc3, atI_nat (j := 1) rfl, _, _, rfl, rfl, wide_div (b := 10) (by decide) (by decide) (by decide) (by decide), _, _, rfl, rfl, _, _, rfl, rfl, wide_mul xb x5 (by decide) (by decide) (by decide), ?_⟩
        refine .inl ⟨_, rfl, _, _, rfl, rfl, (by show (2147483629 : Int) ≠ 0; decide), _, _, rfl, rfl, wide_div (b := 6) (by decide) (by decide) (by decide) (by decide), .int m, rfl, _, _, rfl, rfl, (by show m ≠ 0; omega), ?_⟩
        have h := fmod_in (x := (x * (x / 1009 + 5)).fmod 2147483629 / 61) m0
        exact q _ _ h.1 h.2 ⟨a, x, k' + 1, ns, hc3, hL3, a0, hr2.1, by omega, by omega, by omega, ne⟩ bt3
end
theorem But.free {c L : Addr} {H H' : Hp} {n : Nat} {p : Addr} (s : But c L H H') (u : Cup H' c L n) (h : H' p = none) : H p = none := by
  obtain ⟨_, _, _, _, h1, h2, _⟩ := u
  cases e : H p with
  | none => rfl
  | some o =>
    by_cases q : p = c
    · subst q; rw [h1] at h; cases h
    · by_cases q2 : p = L
      · subst q2; rw [h2] at h; cases h
      · rw [s p o q q2 e] at h; cases h
theorem Cup.upd {c L D : Addr} {H : Hp} {o : HO} {n : Nat} (u : Cup H c L n) (h1 : D ≠ c) (h2 : D ≠ L) : Cup (upd H D o) c L n := by
  obtain ⟨a, b, k, ns, hc, hL, r⟩ := u
  exact ⟨a, b, k, ns, by rw [upd_ne h1.symm]; exact hc, by rw [upd_ne h2.symm]; exact hL, r⟩
theorem Cup.ne {c L D : Addr} {H : Hp} {n : Nat} (u : Cup H c L n) (h : H D = none) : D ≠ c ∧ D ≠ L := by
  obtain ⟨a, b, k, ns, hc, hL, r⟩ := u
  exact ⟨(ne_of_none hc h).symm, (ne_of_none hL h).symm⟩
section
variable {P : Program} {w : World} {K : PySem.W.Frag} {mg : Str → Option Value} {base : Heap} {C : Addr}
abbrev s__law_ratio : Stmt := topS 44
theorem sc__law_ratio : FnScope ["top", "bottom", "common", "other"] ["top", "bottom"] (defScope s__law_ratio) := ⟨rfl, rfl, rfl, by decide +kernel, rfl, by decide +kernel, by decide +kernel⟩
def sp_ratio (K : PySem.W.Frag) : Sp := fun vs H Q _ => ∃ t b, vs = [.int t, .int b] ∧ 0 < b ∧ b.natAbs < 2 ^ 9000 ∧ ∀ p, H p = none → Im K (upd H p (.tup [.int (Rat.divInt t b).num, .int ((Rat.divInt t b).den : Int)])) (.ref p) (rD (Rat.divInt t b)) → Q (.ref p) (upd H p (.tup [.int (Rat.divInt t b).num, .int ((Rat.divInt t b).den : Int)]))
theorem ok__law_ratio {f : Addr} {fd : FuncData} {k : Nat} (F : Fun K "_law_ratio" "_law_ratio" s__law_ratio f fd) (T : Tx K mg C) : FnOk P w K mg base CX0 (k + 1) f fd ["top", "bottom"] (sp_ratio K) := by
  have nd := sc__law_ratio.nd
  refine F.ok sc__law_ratio (fun vs H Q E h => ?_) (fun cdv A outer s H vs Q E hr h => ?_)
  · obtain ⟨_, _, rfl, _⟩ := h
    rfl
  · obtain ⟨t, b, rfl, hb, hs, q⟩ := h
    refine ⟨_, (pss_cons (ps_par (i := 2) (j := 3) (by rfl) nd rfl rfl (by decide) rfl rfl (pa_cons (pe_callB call_abs (by rfl) T.m_abs (by decide +kernel) (pa_cons (pv 1) pa_nil)) (pa_cons (pe_callB call_abs (by rfl) T.m_abs (by decide +kernel) (pa_cons (pv 0) pa_nil)) pa_nil)) (by rfl))
      (pss_cons (ps_while PassesOwn.never (pt_cmpR op_gt (pv 3) pe_int (nomark _))
        (pss_one (ps_par (i := 2) (j := 3) (by rfl) nd rfl rfl (by decide) rfl rfl (pa_cons (pv 3) (pa_cons (pe_op op_modN (pe_callTy call_int1 (by rfl) T.m_int (by decide +kernel) (pa_cons (pv 2) pa_nil)) (pv 3)) pa_nil)) (by rfl))))
      (pss_cons (ps_if (pt_cmpR op_lt (pv 1) pe_int (nomark _))
        (pss_one (ps_set (i := 2) nd rfl (.inl rfl) (pe_un un_neg (pv 2))))
        pss_nil)
      (pss_one (ps_ret (pe_tup (pa_cons (pe_op op_fdivW (pv 0) (pv 2)) (pa_cons (pe_op op_fdivW (pv 1) (pv 2)) pa_nil)))))))), ?_⟩
    refine ⟨.int b, rfl, b, rfl, .int t, rfl, t, rfl, _, _, rfl, ?_⟩
    have eb : (if b < 0 then -b else b) = ((b.natAbs : Nat) : Int) := by split <;> omega
    have et : (if t < 0 then -t else t) = ((t.natAbs : Nat) : Int) := by split <;> omega
    rw [eb, et]
    refine while_by (fun σ H2 => H2 = H ∧ ∃ x y : Nat, σ = [some (.int t), some (.int b), some (.int x), some (.int y)] ∧ 0 < x ∧ Nat.gcd x y = Nat.gcd t.natAbs b.natAbs) (fun σ _ => match σ with | [_, _, _, some (.int y)] => y.toNat | _ => 0) ⟨rfl, b.natAbs, t.natAbs, rfl, by omega, Nat.gcd_comm _ _⟩ ?_ ?_
    · rintro σ H2 ⟨rfl, x, y, rfl, x0, hg⟩
      refine ⟨.int y, rfl, _, _, rfl, rfl, _, rfl, ?_⟩
      by_cases hy : 0 < y
      · rw [decide_eq_true (show (y : Int) > 0 by omega)]
        refine iteT ⟨.int y, rfl, .int x, rfl, .inl ⟨_, rfl, .int y, rfl, _, _, rfl, rfl, (by show (y : Int) ≠ 0; omega), _, _, rfl, ⟨rfl, y, x % y, ?_, hy, ?_⟩, ?_⟩⟩
        · have e : (x : Int).fmod (y : Int) = ((x % y : Nat) : Int) := by rw [Int.fmod_eq_emod_of_nonneg _ (by omega)]; rfl
          show [some (V.int t), some (V.int b), some (V.int y), some (V.int ((x : Int).fmod (y : Int)))] = _
          rw [e]
        · rw [Nat.gcd_comm, ← Nat.gcd_rec, Nat.gcd_comm, hg]
        · have e : (x : Int).fmod (y : Int) = ((x % y : Nat) : Int) := by rw [Int.fmod_eq_emod_of_nonneg _ (by omega)]; rfl
          show ((x : Int).fmod (y : Int)).toNat < ((y : Int)).toNat
          rw [e]
          have := Nat.mod_lt x hy
          omega
      · rw [decide_eq_false (show ¬ (y : Int) > 0 by omega)]
        have y0 : y = 0 := by omega
        subst y0
        rw [Nat.gcd_zero_right] at hg
        subst hg
        refine iteF ⟨.int b, rfl, _, _, rfl, rfl, _, rfl, ?_⟩
        rw [decide_eq_false (show ¬ b < 0 by omega)]
        have c := wide_div (i := t) (gcd_pos (t := t) hb) (Nat.lt_of_le_of_lt (gcd_le hb) hs) (by decide) (Nat.le_refl _)
        have c' := wide_div (i := b) (gcd_pos (t := t) hb) (Nat.lt_of_le_of_lt (gcd_le hb) hs) (by decide) (Nat.le_refl _)
        refine iteF ⟨.int t, rfl, .int _, rfl, _, _, rfl, rfl, c, .int b, rfl, .int _, rfl, _, _, rfl, rfl, c', by show 2 ≤ sizeLine; decide, fun p hp => ?_⟩
        have z := q p hp (rat_mk (.inl upd_same))
        rw [← made_num hb, ← made_den hb] at z
        exact z
    · rintro σ H2 Q1 Q2 hm ⟨v, e, i, j, h1, h2, k', h3, h4⟩
      exact ⟨v, e, i, j, h1, h2, k', h3, hm _ _ h4⟩
end
/-! ### bounds of the ints within -/
mutual
def smD : PyData → Prop
  | .int i => i.natAbs < 2 ^ 134
  | .tuple ds => smAll ds
  | _ => True
def smAll : List PyData → Prop
  | [] => True
  | d :: ds => smD d ∧ smAll ds
end
theorem smAll_mem : ∀ {ds : List PyData}, smAll ds → ∀ d ∈ ds, smD d
  | [], _, d, h => by simp at h
  | x :: ds, h, d, hd => by
    have h' : smD x ∧ smAll ds := by simpa [smAll] using h
    rcases List.mem_cons.mp hd with e | hd
    · rw [e]; exact h'.1
    · exact smAll_mem h'.2 d hd
theorem smAll_of : ∀ {ds : List PyData}, (∀ d ∈ ds, smD d) → smAll ds
  | [], _ => by simp [smAll]
  | x :: ds, h => by
    have h1 := h x (List.mem_cons_self ..)
    have h2 := smAll_of (ds := ds) fun d hd => h d (List.mem_cons_of_mem _ hd)
    simp [smAll, h1, h2]
theorem smD_tup {ds : List PyData} : smD (.tuple ds) ↔ smAll ds := by simp [smD]
theorem smD_int {i : Int} : smD (.int i) ↔ i.natAbs < 2 ^ 134 := by simp [smD]
section
variable {P : Program} {w : World} {K : PySem.W.Frag} {mg : Str → Option Value} {base : Heap} {C : Addr}
abbrev s__law_is_whole : Stmt := topS 43
theorem sc__law_is_whole : FnScope ["found"] ["found"] (defScope s__law_is_whole) := ⟨rfl, rfl, rfl, by decide +kernel, rfl, by decide +kernel, by decide +kernel⟩
def sp_is_whole (K : PySem.W.Frag) : Sp := fun vs H Q _ => ∃ v d, vs = [v] ∧ Dp K H v d ∧ Q (.bl (jInt d)) H
theorem ok__law_is_whole {f : Addr} {fd : FuncData} {k : Nat} (F : Fun K "_law_is_whole" "_law_is_whole" s__law_is_whole f fd) (T : Tx K mg C) : FnOk P w K mg base CX0 (k + 1) f fd ["found"] (sp_is_whole K) := by
  have nd := sc__law_is_whole.nd
  refine F.ok sc__law_is_whole (fun vs H Q E h => ?_) (fun cdv A outer s H vs Q E hr h => ?_)
  · obtain ⟨_, _, rfl, _⟩ := h
    rfl
  · obtain ⟨v, d, rfl, hd, q⟩ := h
    refine ⟨_, (pss_one (ps_ret (pe_and (pe_callB (kcall_isi K) (by rfl) T.m_isinstance (by decide +kernel) (pa_cons (pv 0) (pa_cons (pe_bltn (v := .ty "int") (u := .type "int") (by rfl) T.m_int (by decide +kernel) rfl) pa_nil))) (pe_one (pe_not (pe_callB (kcall_isi K) (by rfl) T.m_isinstance (by decide +kernel) (pa_cons (pv 0) (pa_cons (pe_bltn (v := .ty "bool") (u := .type "bool") (by rfl) T.m_bool (by decide +kernel) rfl) pa_nil)))))))), ?_⟩
    refine ⟨v, rfl, v, _, .type (tyName d), _, jIntB d, rfl, .ty _, dp_ty hd, kit_ty (kit_int d), jIntB d, rfl, ?_⟩
    rw [jInt_as] at q
    cases h1 : jIntB d with
    | false => rw [h1] at q; exact iteF q
    | true =>
      rw [h1] at q
      exact iteT ⟨v, rfl, v, _, .type (tyName d), _, jBool d, rfl, .ty _, dp_ty hd, kit_ty (kit_bool d), jBool d, rfl, q⟩
theorem shaped_rat (q : Rat) : SeqAt.shaped (rD q) = true := by
  show (PyData.canLay0 (rD q) && decide (PyData.depth (rD q) ≤ 64)) = true
  rw [Bool.and_eq_true]
  exact ⟨by simp [rD, PyData.canLay0, PyData.canLayAll0], decide_eq_true (by simp [rD, PyData.depth, PyData.depthAll])⟩
theorem shaped_pair (t b : Int) : SeqAt.shaped (.tuple [.int t, .int b]) = true := by
  show (PyData.canLay0 (.tuple [.int t, .int b]) && decide (PyData.depth (.tuple [.int t, .int b]) ≤ 64)) = true
  rw [Bool.and_eq_true]
  exact ⟨by simp [PyData.canLay0, PyData.canLayAll0], decide_eq_true (by simp [PyData.depth, PyData.depthAll])⟩
/-- a pair is a ratio exactly if it is its ratio's own -/
theorem eqv_own {t b : Int} (hb : 0 < b) : PyData.eqv (.tuple [.int t, .int b]) (rD (Rat.divInt t b)) = jRatio (.tuple [.int t, .int b]) := by
  have e1 : jRatio (.tuple [.int t, .int b]) = (decide (1 ≤ b) && decide (Nat.gcd t.natAbs b.natAbs = 1)) := rfl
  rw [e1, decide_eq_true (show 1 ≤ b by omega), Bool.true_and]
  by_cases hg : Nat.gcd t.natAbs b.natAbs = 1
  · rw [decide_eq_true hg]
    obtain ⟨q, hq⟩ := ratio_of (d := .tuple [.int t, .int b]) (by rw [e1, decide_eq_true (show 1 ≤ b by omega), decide_eq_true hg]; rfl)
    have h2 : ([PyData.int t, .int b] : List PyData) = [.int q.num, .int (q.den : Int)] := by injection hq
    have h3 : t = q.num := by injection h2 with a _; injection a
    have h4 : b = (q.den : Int) := by injection h2 with _ c; injection c with c _; injection c
    rw [h3, h4, Rat.num_divInt_den]
    simp [rD, PyData.eqv, PyData.eqvAll]
  · rw [decide_eq_false hg]
    cases he : PyData.eqv (.tuple [.int t, .int b]) (rD (Rat.divInt t b)) with
    | false => rfl
    | true =>
      exfalso
      have h2 : t = (Rat.divInt t b).num ∧ b = ((Rat.divInt t b).den : Int) := by simpa [rD, PyData.eqv, PyData.eqvAll] using he
      refine hg ?_
      have h3 := (Rat.divInt t b).reduced
      have h4 : t.natAbs = (Rat.divInt t b).num.natAbs := by rw [← h2.1]
      have h5 : b.natAbs = (Rat.divInt t b).den := by
        have := h2.2
        omega
      rw [h4, h5]
      exact h3
abbrev s__law_is_ratio : Stmt := topS 45
theorem sc__law_is_ratio : FnScope ["found"] ["found"] (defScope s__law_is_ratio) := ⟨rfl, rfl, rfl, by decide +kernel, rfl, by decide +kernel, by decide +kernel⟩
def sp_lis_ratio (K : PySem.W.Frag) : Sp := fun vs H Q _ => ∃ v d, vs = [v] ∧ Dp K H v d ∧ smD d ∧ ∀ H', Same H H' → Q (.bl (jRatio d)) H'
theorem ok__law_is_ratio {f : Addr} {fd : FuncData} {k : Nat} (F : Fun K "_law_is_ratio" "_law_is_ratio" s__law_is_ratio f fd) (T : Tx K mg C){ki : Nat} (D__law_is_whole : Def P w K mg base ki "_law_is_whole" s__law_is_whole ["found"] (sp_is_whole K)) {kj : Nat} (D__law_ratio : Def P w K mg base kj "_law_ratio" s__law_ratio ["top", "bottom"] (sp_ratio K)) (hk : ki ≤ k) (hj : kj ≤ k) : FnOk P w K mg base CX0 (k + 1) f fd ["found"] (sp_lis_ratio K) := by
  have nd := sc__law_is_ratio.nd
  refine F.ok sc__law_is_ratio (fun vs H Q E h => ?_) (fun cdv A outer s H vs Q E hr h => ?_)
  · obtain ⟨_, _, rfl, _⟩ := h
    rfl
  · obtain ⟨v, d, rfl, hd, sm, q⟩ := h
    have q0 := q H (Same.refl H)
    refine ⟨_, (pss_cons (ps_if (PW.pt (pw_or (pt_not (pt_val (pe_callB (kcall_isi K) (by rfl) T.m_isinstance (by decide +kernel) (pa_cons (pv 0) (pa_cons (pe_bltn (v := .ty "tuple") (u := .type "tuple") (by rfl) T.m_tuple (by decide +kernel) rfl) pa_nil))))) (pw_or (pt_cmpR op_ne (pe_callB (kcall_len K) (by rfl) T.m_len PySem.boot_len (pa_cons (pv 0) pa_nil)) pe_int (nomark _)) (pw_or (pt_not (pt_val (pe_def D__law_is_whole (hr.mono (by omega)) rfl (pa_cons (pe_ix (kix_tup K) (pv 0) pe_int (fun _ _ => rfl)) pa_nil)))) (pw_or1 (pt_not (pt_val (pe_def D__law_is_whole (hr.mono (by omega)) rfl (pa_cons (pe_ix (kix_tup K) (pv 0) pe_int (fun _ _ => rfl)) pa_nil)))))))))
        (pss_one (ps_ret pe_bl))
        pss_nil)
      (pss_one (ps_ret (pe_and (pe_cmpR op_gt (pe_ix (kix_tup K) (pv 0) pe_int (fun _ _ => rfl)) pe_int (nomark _)) (pe_one (pe_cmpR (kop_eqD K hr.units) (pv 0) (pe_def D__law_ratio (hr.mono (by omega)) rfl (pa_cons (pe_ix (kix_tup K) (pv 0) pe_int (fun _ _ => rfl)) (pa_cons (pe_ix (kix_tup K) (pv 0) pe_int (fun _ _ => rfl)) pa_nil))) (nomark _))))))), ?_⟩
    refine ⟨v, rfl, v, _, .type (tyName d), _, jTup d, rfl, .ty _, dp_ty hd, kit_ty (kit_tup d), jTup d, rfl, ?_⟩
    cases hd with
    | @tup a xs ds ha hx =>
      have l := dpAll_len hx
      refine iteF ⟨.ref a, rfl, a, xs, rfl, .inr ha, rfl, _, rfl, ?_⟩
      by_cases h2 : ds.length = 2
      · rw [decide_eq_true (show V.int (xs.length : Nat) = V.int 2 by rw [l, h2]; rfl)]
        obtain ⟨d0, d1, rfl⟩ : ∃ d0 d1, ds = [d0, d1] := by
          match ds, h2 with
          | [x, y], _ => exact ⟨x, y, rfl⟩
        cases hx with
        | @cons v0 vs0 _ _ i0 r0 =>
          cases r0 with
          | @cons v1 vs1 _ _ i1 r1 =>
            cases r1
            refine iteF ⟨.ref a, rfl, a, _, 0, _, rfl, rfl, ha, atI_nat (j := 0) rfl, v0, d0, rfl, i0, jInt d0, rfl, ?_⟩
            cases i0 with
            | int t =>
              refine iteF ⟨.ref a, rfl, a, _, 1, _, rfl, rfl, ha, atI_nat (j := 1) rfl, v1, d1, rfl, i1, jInt d1, rfl, ?_⟩
              cases i1 with
              | int b =>
                refine iteF ⟨.ref a, rfl, a, _, 1, _, rfl, rfl, ha, atI_nat (j := 1) rfl, _, _, rfl, rfl, _, rfl, ?_⟩
                by_cases hb : b > 0
                · rw [decide_eq_true hb]
                  have sb : b.natAbs < 2 ^ 134 := smD_int.mp (smAll_mem (smD_tup.mp sm) (.int b) (by simp))
                  refine iteT ⟨.ref a, rfl, .ref a, rfl, a, _, 0, _, rfl, rfl, ha, atI_nat (j := 0) rfl, .ref a, rfl, a, _, 1, _, rfl, rfl, ha, atI_nat (j := 1) rfl, t, b, rfl, hb, lt_up sb (by decide), fun p hp2 ip => ?_⟩
                  have sm2 := same_new (o := .tup [.int (Rat.divInt t b).num, .int ((Rat.divInt t b).den : Int)]) hp2
                  refine ⟨.tuple [.int t, .int b], rD (Rat.divInt t b), dp_same sm2 _ (.tup ha (.cons (.int t) (.cons (.int b) .nil))), Im.dp _ ip, shaped_pair t b, shaped_rat _, ?_⟩
                  rw [eqv_own hb]
                  exact q _ sm2
                · rw [decide_eq_false hb]
                  have e : jRatio (.tuple [.int t, .int b]) = false := by
                    show (decide (1 ≤ b) && _) = false
                    rw [decide_eq_false (show ¬ 1 ≤ b by omega)]; rfl
                  rw [e] at q0
                  exact iteF q0
              | non => exact iteT q0
              | bl b => exact iteT q0
              | str x => exact iteT q0
              | lst _ _ => exact iteT q0
              | tup _ _ => exact iteT q0
            | non => exact iteT q0
            | bl b => exact iteT q0
            | str x => exact iteT q0
            | lst _ _ => exact iteT q0
            | tup _ _ => exact iteT q0
      · rw [decide_eq_false (show ¬ V.int (xs.length : Nat) = V.int 2 from fun z => h2 (by have := V.int.inj z; omega))]
        have e : jRatio (.tuple ds) = false := by
          match ds, h2 with
          | [], _ => rfl
          | [x], _ => cases x <;> rfl
          | [_, _], h => exact absurd rfl h
          | x :: y :: _ :: _, _ => cases x <;> first | rfl | (cases y <;> rfl)
        rw [e] at q0
        exact iteT q0
    | non => exact iteT q0
    | bl b => exact iteT q0
    | int i => exact iteT q0
    | str x => exact iteT q0
    | lst _ _ => exact iteT q0
end
end K42

set_option Elab.async false
set_option linter.all false
set_option maxRecDepth 100000
set_option exponentiation.threshold 20000
namespace K42
open PySem PySem.Spec PyProof.Rows L2 Ly Mt El
/-- an entry as it is drawn -/
def Ent (g : Bool) (q : Rat) : Prop := ∃ z : Int, ((42 : Int) : Rat) * q = (z : Rat) ∧ z.natAbs ≤ (if g then 42 * 10 ^ 40 else 168)
theorem ent_mk {t bo c : Int} (h : bo * c = 42) (h0 : bo ≠ 0) : ((42 : Int) : Rat) * Rat.divInt t bo = ((t * c : Int) : Rat) := by
  have hb : (bo : Rat) ≠ 0 := fun e => h0 (Rat.intCast_inj.mp (by simpa using e))
  have h2 : (bo : Rat) * (c : Rat) = ((42 : Int) : Rat) := by rw [← h, Rat.intCast_mul]
  rw [Rat.divInt_eq_div, Rat.intCast_mul, ← h2]
  grind
section
variable {P : Program} {w : World} {K : PySem.W.Frag} {mg : Str → Option Value} {base : Heap} {C : Addr}
abbrev s__law_entry : Stmt := topS 46
theorem sc__law_entry : FnScope ["cup", "great", "top"] ["cup", "great"] (defScope s__law_entry) := ⟨rfl, rfl, rfl, by decide +kernel, rfl, by decide +kernel, by decide +kernel⟩
def sp_entry (K : PySem.W.Frag) : Sp := fun vs H Q _ => ∃ c L g n, vs = [.ref c, .bl g] ∧ Cup H c L (n + 5) ∧ ∀ q p H', Im K H' (.ref p) (rD q) → Ent g q → q.num.natAbs ≤ 10 ^ 40 → q.den ≤ 7 → Cup H' c L n → But c L H H' → H p = none → Q (.ref p) H'
theorem ok__law_entry {f : Addr} {fd : FuncData} {k : Nat} (F : Fun K "_law_entry" "_law_entry" s__law_entry f fd) (T : Tx K mg C){ki : Nat} (D__law_sip : Def P w K mg base ki "_law_sip" s__law_sip ["cup", "many"] sp_sip) (D__law_ratio : Def P w K mg base ki "_law_ratio" s__law_ratio ["top", "bottom"] (sp_ratio K)) (hk : ki ≤ k) : FnOk P w K mg base CX0 (k + 1) f fd ["cup", "great"] (sp_entry K) := by
  have nd := sc__law_entry.nd
  refine F.ok sc__law_entry (fun vs H Q E h => ?_) (fun cdv A outer s H vs Q E hr h => ?_)
  · obtain ⟨_, _, _, _, rfl, _⟩ := h
    rfl
  · obtain ⟨c, L, g, n, rfl, u, q⟩ := h
    refine ⟨_, (pss_cons (ps_set (i := 2) nd rfl (.inl rfl) (pe_op op_sub (pe_def D__law_sip (hr.mono (by omega)) rfl (pa_cons (pv 0) (pa_cons pe_int pa_nil))) pe_int))
      (C8.pss_cut (ps_if (PW.pt (pw_and (pt_val (pv 1)) (pw_and1 (pt_cmpR op_eq (pe_def D__law_sip (hr.mono (by omega)) rfl (pa_cons (pv 0) (pa_cons pe_int pa_nil))) pe_int (nomark _)))))
        (pss_one (ps_set (i := 2) nd rfl (.inl rfl) (pe_op op_mulW (pe_ix (kix_list K) (pe_lst (pa_cons pe_int (pa_cons (pe_un un_neg pe_int) pa_nil))) (pe_def D__law_sip (hr.mono (by omega)) rfl (pa_cons (pv 0) (pa_cons pe_int pa_nil))) (fun _ _ => rfl)) (pe_def D__law_sip (hr.mono (by omega)) rfl (pa_cons (pv 0) (pa_cons (pe_op op_pow pe_int pe_int) pa_nil))))))
        pss_nil)
      (pss_one (ps_ret (pe_def D__law_ratio (hr.mono (by omega)) rfl (pa_cons (pv 2) (pa_cons (pe_ix (kix_list K) (pe_lst (pa_cons pe_int (pa_cons pe_int (pa_cons pe_int (pa_cons pe_int (pa_cons pe_int (pa_cons pe_int (pa_cons pe_int pa_nil)))))))) (pe_def D__law_sip (hr.mono (by omega)) rfl (pa_cons (pv 0) (pa_cons pe_int pa_nil))) (fun _ _ => rfl)) pa_nil))))))), ?_⟩
    refine ⟨.ref c, rfl, c, L, 9, n + 4, rfl, u, by decide, by decide, fun d1 H1 d0 d9 u1 b1 => ⟨_, _, rfl, rfl, ?_⟩⟩
    have t1 : (d1 - 4).natAbs ≤ (if g then 10 ^ 40 else 4) := by
      have : (d1 - 4).natAbs ≤ 4 := by omega
      split
      · exact Nat.le_trans this (by decide)
      · exact this
    refine ⟨fun σ' H' => ∃ t, σ' = [some (.ref c), some (.bl g), some (.int t)] ∧ t.natAbs ≤ (if g then 10 ^ 40 else 4) ∧ Cup H' c L (n + 1) ∧ But c L H H', ?_, ?_⟩
    · refine ⟨.bl g, rfl, g, rfl, ?_⟩
      cases g with
      | false => exact iteF (iteF ⟨_, rfl, t1, u1.less (by omega), b1⟩)
      | true =>
        refine iteT ⟨.ref c, rfl, c, L, 3, n + 3, rfl, u1, by decide, by decide, fun d2 H2 _ _ u2 b2 => ⟨rfl, _, rfl, ?_⟩⟩
        have b12 := b1.trans b2
        by_cases e2 : d2 = 0
        · rw [decide_eq_true (show V.int d2 = V.int 0 by rw [e2])]
          refine iteT ⟨_, rfl, by show 2 ≤ sizeLine; decide, fun l hl => ⟨.ref c, rfl, c, L, 2, n + 2, rfl, u2.same (same_new hl), by decide, by decide, fun d3 H3 d30 d31 u3 b3 => ?_⟩⟩
          have ne := u2.ne hl
          have hl3 : H3 l = some (.lst [.int 1, .int (-1)]) := b3 l _ ne.1 ne.2 upd_same
          have p40 : (10 : Int) ^ (40 : Int).toNat = 10000000000000000000000000000000000000000 := by decide
          obtain ⟨sg, hsg, gs⟩ : ∃ sg : Int, (sg = 1 ∨ sg = -1) ∧ atI [V.int 1, V.int (-1)] d3 = some (V.int sg) := by
            have : d3 = 0 ∨ d3 = 1 := by omega
            rcases this with rfl | rfl
            · exact ⟨1, .inl rfl, rfl⟩
            · exact ⟨-1, .inr rfl, rfl⟩
          refine ⟨l, _, d3, _, rfl, rfl, .of hl3, gs, .ref c, rfl, _, _, rfl, rfl, ⟨by decide, by decide, by decide⟩, ?_⟩
          refine ⟨c, L, _, n + 1, rfl, u3, by rw [p40]; decide, by rw [p40]; decide, fun d4 H4 d40 d41 u4 b4 => ?_⟩
          rw [p40] at d41
          have d4b : d4.natAbs < 2 ^ 133 := abs_lt d40 (by omega)
          have sgb : sg.natAbs < 2 ^ 1 := by rcases hsg with rfl | rfl <;> decide
          refine ⟨_, _, rfl, rfl, wide_mul sgb d4b (by decide) (by decide) (by decide), _, rfl, ?_, u4, ((b12.trans (but_same (same_new hl))).trans b3).trans b4⟩
          rw [if_pos rfl]
          have a1 : (sg * d4).natAbs = d4.natAbs := by rcases hsg with rfl | rfl <;> simp
          rw [a1]
          omega
        · rw [decide_eq_false (show ¬ V.int d2 = V.int 0 from fun z => e2 (V.int.inj z))]
          exact iteF ⟨_, rfl, t1, u2.less (by omega), b12⟩
    · rintro σ' H' ⟨t, rfl, tb, u', bt⟩
      refine ⟨.int t, rfl, by show 7 ≤ sizeLine; decide, fun l hl => ⟨.ref c, rfl, c, L, 7, n, rfl, u'.same (same_new hl), by decide, by decide, fun d5 H5 d50 d51 u5 b5 => ?_⟩⟩
      have ne := u'.ne hl
      have hl5 : H5 l = some (.lst [.int 1, .int 1, .int 2, .int 1, .int 3, .int 1, .int 7]) := b5 l _ ne.1 ne.2 upd_same
      obtain ⟨bo, bc, hb0, hb8, hc0, hc, hbc, gs⟩ : ∃ bo bc : Int, 0 < bo ∧ bo < 8 ∧ 0 < bc ∧ bc ≤ 42 ∧ bo * bc = 42 ∧ atI [V.int 1, V.int 1, V.int 2, V.int 1, V.int 3, V.int 1, V.int 7] d5 = some (V.int bo) := by
        have : d5 = 0 ∨ d5 = 1 ∨ d5 = 2 ∨ d5 = 3 ∨ d5 = 4 ∨ d5 = 5 ∨ d5 = 6 := by omega
        rcases this with rfl | rfl | rfl | rfl | rfl | rfl | rfl
        · exact ⟨1, 42, by decide, by decide, by decide, by decide, by decide, rfl⟩
        · exact ⟨1, 42, by decide, by decide, by decide, by decide, by decide, rfl⟩
        · exact ⟨2, 21, by decide, by decide, by decide, by decide, by decide, rfl⟩
        · exact ⟨1, 42, by decide, by decide, by decide, by decide, by decide, rfl⟩
        · exact ⟨3, 14, by decide, by decide, by decide, by decide, by decide, rfl⟩
        · exact ⟨1, 42, by decide, by decide, by decide, by decide, by decide, rfl⟩
        · exact ⟨7, 6, by decide, by decide, by decide, by decide, by decide, rfl⟩
      have bb : bo.natAbs < 2 ^ 3 := by omega
      refine ⟨l, _, d5, _, rfl, rfl, .of hl5, gs, t, bo, rfl, hb0, lt_up bb (by decide), fun p hp ip => ?_⟩
      have b6 : But c L H H5 := (bt.trans (but_same (same_new hl))).trans b5
      have t40 : t.natAbs ≤ 10 ^ 40 := Nat.le_trans tb (by cases g <;> decide)
      refine q _ p _ ip ⟨t * bc, ent_mk hbc (by omega), ?_⟩ ?_ ?_ (u5.same (same_new hp)) (b6.trans (but_same (same_new hp))) (b6.free u5 hp)
      · rw [Int.natAbs_mul]
        have hc2 : bc.natAbs ≤ 42 := by omega
        have := Nat.mul_le_mul tb hc2
        refine Nat.le_trans this ?_
        cases g <;> decide
      · rw [← made_num hb0]
        exact Nat.le_trans (Int.natAbs_ediv_le_natAbs _ _) t40
      · have h1 := made_den (t := t) hb0
        have h2 : (bo / ((Nat.gcd t.natAbs bo.natAbs : Nat) : Int)) ≤ bo := Int.ediv_le_self _ (by omega)
        omega
abbrev s__law_vector_is : Stmt := topS 49
theorem sc__law_vector_is : FnScope ["found", "entry"] ["found"] (defScope s__law_vector_is) := ⟨rfl, rfl, rfl, by decide +kernel, rfl, by decide +kernel, by decide +kernel⟩
def sp_lvec (K : PySem.W.Frag) : Sp := fun vs H Q _ => ∃ v d, vs = [v] ∧ Dp K H v d ∧ smD d ∧ ∀ H', Same H H' → Q (.bl (jVec d)) H'
theorem ok__law_vector_is {f : Addr} {fd : FuncData} {k : Nat} (F : Fun K "_law_vector_is" "_law_vector_is" s__law_vector_is f fd) (T : Tx K mg C){ki : Nat} (D__law_is_ratio : Def P w K mg base ki "_law_is_ratio" s__law_is_ratio ["found"] (sp_lis_ratio K)) (hk : ki ≤ k) : FnOk P w K mg base CX0 (k + 1) f fd ["found"] (sp_lvec K) := by
  have nd := sc__law_vector_is.nd
  refine F.ok sc__law_vector_is (fun vs H Q E h => ?_) (fun cdv A outer s H vs Q E hr h => ?_)
  · obtain ⟨i, xs, rfl, _⟩ := h
    rfl
  · obtain ⟨v, d, rfl, hd, sd, q⟩ := h
    refine ⟨_, (pss_one (ps_ret (pe_and (pe_callB (kcall_isi K) (by rfl) T.m_isinstance (by decide +kernel) (pa_cons (pv 0) (pa_cons (pe_bltn (v := .ty "tuple") (u := .type "tuple") (by rfl) T.m_tuple (by decide +kernel) rfl) pa_nil))) (pe_and (pe_cmpR op_lt (pe_callB (kcall_len K) (by rfl) T.m_len PySem.boot_len (pa_cons (pv 0) pa_nil)) pe_int (nomark _)) (pe_one (pe_callB (kcr_all K) (by rfl) T.m_all (by decide +kernel) (pa_cons (pe_lc (own := [("entry", 1)]) (g := gName 1) (tt := tYes) rfl nd (kpi_tup K (pv 0)) (blkOk_by (by rfl)) (fun _ _ _ _ _ => (pg_name (i := 1) nd rfl (.inl rfl))) (fun _ _ _ _ _ => pts_nil) (fun _ _ _ _ _ => (pe_def D__law_is_ratio (hr.mono (by omega)) rfl (pa_cons (pv 1) pa_nil)))) pa_nil))))))), ?_⟩
    refine ⟨v, rfl, v, _, .type (tyName d), _, jTup d, rfl, .ty _, dp_ty hd, kit_ty (kit_tup d), jTup d, rfl, ?_⟩
    cases hd with
    | @tup a xs ds ha hx =>
      have l := dpAll_len hx
      refine iteT ⟨.ref a, rfl, a, xs, rfl, .inr ha, _, _, rfl, rfl, _, rfl, ?_⟩
      by_cases h48 : ds.length ≤ 48
      · rw [decide_eq_true (show (xs.length : Int) < 49 by omega)]
        refine iteT ⟨.ref a, rfl, a, rfl, ⟨xs, ha⟩, fun D hD => ?_⟩
        refine lc_all (walk_tup (xs := xs)) (fun i H2 => Same H H2 ∧ H2 D = some (.lst (((ds.take i).map jRatio).map V.bl))) ⟨same_new hD, upd_same⟩ (fun i H2 _ z => sqt_same' ha z.1) (fun i x H2 H3 hi z y => ?_) (fun H2 z => ?_)
        · obtain ⟨sm, eD⟩ := z
          obtain ⟨rfl, hx1⟩ := y
          obtain ⟨di, hdi, idi⟩ := dpAll_getV hx hx1
          refine ⟨rfl, x, rfl, x, di, rfl, dp_same sm _ idi, smAll_mem (smD_tup.mp sd) di (List.mem_of_getElem? hdi), fun H4 sm4 => ⟨_, sm4 _ _ eD, small1000 (by rw [List.length_map, List.length_map, List.length_take]; omega), ?_⟩⟩
          exact bools_snoc (H := H) (sm.trans sm4) hD (sm4 _ _ eD) hdi
        · refine ⟨D, ds.map jRatio, rfl, .of (by rw [← List.take_of_length_le (l := ds) (i := xs.length) (by omega)]; exact z.2), ?_⟩
          rw [all_map]
          have e : jVec (.tuple ds) = ds.all jRatio := by
            show (decide (ds.length ≤ 48) && ds.all jRatio) = _
            rw [decide_eq_true h48]; rfl
          have := q H2 z.1
          rw [e] at this
          exact this
      · rw [decide_eq_false (show ¬ (xs.length : Int) < 49 by omega)]
        have e : jVec (.tuple ds) = false := by
          show (decide (ds.length ≤ 48) && ds.all jRatio) = _
          rw [decide_eq_false h48]; rfl
        have := q H (Same.refl H)
        rw [e] at this
        exact iteF this
    | non => exact iteF (q H (Same.refl H))
    | bl b => exact iteF (q H (Same.refl H))
    | int i => exact iteF (q H (Same.refl H))
    | str x => exact iteF (q H (Same.refl H))
    | lst _ _ => exact iteF (q H (Same.refl H))
abbrev s__law_matrix_is : Stmt := topS 50
theorem sc__law_matrix_is : FnScope ["found", "row"] ["found"] (defScope s__law_matrix_is) := ⟨rfl, rfl, rfl, by decide +kernel, rfl, by decide +kernel, by decide +kernel⟩
def sp_lmat (K : PySem.W.Frag) : Sp := fun vs H Q _ => ∃ v d, vs = [v] ∧ Dp K H v d ∧ smD d ∧ ∀ H', Same H H' → Q (.bl (jMat d)) H'
theorem ok__law_matrix_is {f : Addr} {fd : FuncData} {k : Nat} (F : Fun K "_law_matrix_is" "_law_matrix_is" s__law_matrix_is f fd) (T : Tx K mg C){ki : Nat} (D__law_vector_is : Def P w K mg base ki "_law_vector_is" s__law_vector_is ["found"] (sp_lvec K)) (hk : ki ≤ k) : FnOk P w K mg base CX0 (k + 1) f fd ["found"] (sp_lmat K) := by
  have nd := sc__law_matrix_is.nd
  refine F.ok sc__law_matrix_is (fun vs H Q E h => ?_) (fun cdv A outer s H vs Q E hr h => ?_)
  · obtain ⟨i, xs, rfl, _⟩ := h
    rfl
  · obtain ⟨v, d, rfl, hd, sd, q⟩ := h
    refine ⟨_, (pss_cons (ps_if (PW.pt (pw_or (pt_not (pt_val (pe_callB (kcall_isi K) (by rfl) T.m_isinstance (by decide +kernel) (pa_cons (pv 0) (pa_cons (pe_bltn (v := .ty "tuple") (u := .type "tuple") (by rfl) T.m_tuple (by decide +kernel) rfl) pa_nil))))) (pw_or (pt_cmpR op_gt (pe_callB (kcall_len K) (by rfl) T.m_len PySem.boot_len (pa_cons (pv 0) pa_nil)) pe_int (nomark _)) (pw_or1 (pt_not (pt_val (pe_callB (kcr_all K) (by rfl) T.m_all (by decide +kernel) (pa_cons (pe_lc (own := [("row", 1)]) (g := gName 1) (tt := tYes) rfl nd (kpi_tup K (pv 0)) (blkOk_by (by rfl)) (fun _ _ _ _ _ => (pg_name (i := 1) nd rfl (.inl rfl))) (fun _ _ _ _ _ => pts_nil) (fun _ _ _ _ _ => (pe_def D__law_vector_is (hr.mono (by omega)) rfl (pa_cons (pv 1) pa_nil)))) pa_nil))))))))
        (pss_one (ps_ret pe_bl))
        pss_nil)
      (pss_one (ps_ret (pe_callB (kcr_all K) (by rfl) T.m_all (by decide +kernel) (pa_cons (pe_lc (own := [("row", 1)]) (g := gName 1) (tt := tYes) rfl nd (kpi_tup K (pv 0)) (blkOk_by (by rfl)) (fun _ _ _ _ _ => (pg_name (i := 1) nd rfl (.inl rfl))) (fun _ _ _ _ _ => pts_nil) (fun _ _ _ _ _ => (pe_cmpR op_eq (pe_callB (kcall_len K) (by rfl) T.m_len PySem.boot_len (pa_cons (pv 1) pa_nil)) (pe_callB (kcall_len K) (by rfl) T.m_len PySem.boot_len (pa_cons (pe_ix (kix_tup K) (pv 0) pe_int (fun _ _ => rfl)) pa_nil)) (nomark _)))) pa_nil))))), ?_⟩
    refine ⟨v, rfl, v, _, .type (tyName d), _, jTup d, rfl, .ty _, dp_ty hd, kit_ty (kit_tup d), jTup d, rfl, ?_⟩
    cases hd with
    | @tup a xs ds ha hx =>
      have l := dpAll_len hx
      refine iteF ⟨.ref a, rfl, a, xs, rfl, .inr ha, _, _, rfl, rfl, _, rfl, ?_⟩
      by_cases h48 : ds.length ≤ 48
      · rw [decide_eq_false (show ¬ (xs.length : Int) > 48 by omega)]
        refine iteF ⟨.ref a, rfl, a, rfl, ⟨xs, ha⟩, fun D hD => ?_⟩
        refine lc_all (walk_tup (xs := xs)) (fun i H2 => Same H H2 ∧ H2 D = some (.lst (((ds.take i).map jVec).map V.bl))) ⟨same_new hD, upd_same⟩ (fun i H2 _ z => sqt_same' ha z.1) (fun i x H2 H3 hi z y => ?_) (fun H2 z => ?_)
        · obtain ⟨sm, eD⟩ := z
          obtain ⟨rfl, hx1⟩ := y
          obtain ⟨di, hdi, idi⟩ := dpAll_getV hx hx1
          refine ⟨rfl, x, rfl, x, di, rfl, dp_same sm _ idi, smAll_mem (smD_tup.mp sd) di (List.mem_of_getElem? hdi), fun H4 sm4 => ⟨_, sm4 _ _ eD, small1000 (by rw [List.length_map, List.length_map, List.length_take]; omega), ?_⟩⟩
          have := bools_snoc (H := H) (sm.trans sm4) hD (sm4 _ _ eD) hdi
          exact this
        · refine ⟨D, ds.map jVec, rfl, .of (by rw [← List.take_of_length_le (l := ds) (i := xs.length) (by omega)]; exact z.2), ?_⟩
          rw [all_map]
          have sm1 := z.1
          cases hv : ds.all jVec with
          | false =>
            have e : jMat (.tuple ds) = false := by
              show (decide (ds.length ≤ 48) && ds.all jVec && _) = _
              rw [hv, Bool.and_false]; rfl
            have := q H2 sm1
            rw [e] at this
            exact ⟨false, rfl, iteT this⟩
          | true =>
            refine ⟨true, rfl, iteF ?_⟩
            have hall := List.all_eq_true.mp hv
            refine ⟨.ref a, rfl, a, rfl, ⟨xs, sqt_same' ha sm1⟩, fun D2 hD2 => ?_⟩
            refine lc_all (walk_tup (xs := xs)) (fun i H3 => Same H2 H3 ∧ H3 D2 = some (.lst (((ds.take i).map (fun r => decide (rowLen r = rowLen (ds.getD 0 .none)))).map V.bl))) ⟨same_new hD2, upd_same⟩ (fun i H3 _ z => sqt_same' ha (sm1.trans z.1)) (fun i x H3 H4 hi z y => ?_) (fun H3 z => ?_)
            · obtain ⟨sm, eD⟩ := z
              obtain ⟨rfl, hx1⟩ := y
              have sm2 := sm1.trans sm
              obtain ⟨di, hdi, idi⟩ := dpAll_getV hx hx1
              obtain ⟨es, rfl⟩ := jVec_tup (hall di (List.mem_of_getElem? hdi))
              have h0 : ds[0]? = some (ds[0]'(by omega)) := List.getElem?_eq_getElem (by omega)
              have hm0 := List.getElem_mem (l := ds) (n := 0) (by omega)
              generalize ds[0]'(by omega) = d0 at h0 hm0
              obtain ⟨es0, rfl⟩ := jVec_tup (hall d0 hm0)
              obtain ⟨x0, hx0, id0⟩ := dpAll_get hx h0
              have eg : ds.getD 0 .none = .tuple es0 := by rw [List.getD_eq_getElem?_getD, h0]; rfl
              have i1 := dp_same sm2 _ idi
              have i0 := dp_same sm2 _ id0
              cases i1 with
              | @tup b ys _ hb hys =>
                cases i0 with
                | @tup b0 ys0 _ hb0 hys0 =>
                  have ly := dpAll_len hys
                  have ly0 := dpAll_len hys0
                  have bs := bools_snoc (j := fun r => decide (rowLen r = rowLen (ds.getD 0 .none))) sm hD2 eD hdi
                  have e : decide (V.int (ys.length : Nat) = V.int (ys0.length : Nat)) = decide (rowLen (.tuple es) = rowLen (ds.getD 0 .none)) := by
                    rw [eg]
                    show _ = decide (es.length = es0.length)
                    by_cases h : es.length = es0.length
                    · rw [decide_eq_true h, decide_eq_true (by rw [ly, ly0, h])]
                    · rw [decide_eq_false h, decide_eq_false (fun z => h (by have := V.int.inj z; omega))]
                  rw [← e] at bs
                  exact ⟨rfl, .ref b, rfl, b, ys, rfl, .inr hb, .ref a, rfl, a, xs, 0, _, rfl, rfl, sqt_same' ha sm2, atI_nat (j := 0) hx0, b0, ys0, rfl, .inr hb0, rfl, _, eD, small1000 (by rw [List.length_map, List.length_map, List.length_take]; omega), bs⟩
            · have e3 := z.2
              rw [List.take_of_length_le (by omega)] at e3
              refine ⟨D2, ds.map (fun r => decide (rowLen r = rowLen (ds.getD 0 .none))), rfl, .of e3, ?_⟩
              rw [all_map]
              have e : jMat (.tuple ds) = ds.all (fun r => decide (rowLen r = rowLen (ds.getD 0 .none))) := by
                show (decide (ds.length ≤ 48) && ds.all jVec && _) = _
                rw [decide_eq_true h48, hv]; rfl
              have := q H3 (sm1.trans z.1)
              rw [e] at this
              exact this
      · rw [decide_eq_true (show (xs.length : Int) > 48 by omega)]
        have e : jMat (.tuple ds) = false := by
          show (decide (ds.length ≤ 48) && ds.all jVec && _) = _
          rw [decide_eq_false h48]; rfl
        have := q H (Same.refl H)
        rw [e] at this
        exact iteT this
    | non => exact iteT (q H (Same.refl H))
    | bl b => exact iteT (q H (Same.refl H))
    | int i => exact iteT (q H (Same.refl H))
    | str x => exact iteT (q H (Same.refl H))
    | lst _ _ => exact iteT (q H (Same.refl H))
end
end K42

set_option Elab.async false
set_option linter.all false
set_option maxRecDepth 100000
set_option exponentiation.threshold 20000
namespace K42
open PySem PySem.Spec PyProof.Rows L2 Ly Mt El
/-! ### numbers whose multiple is an int -/
def Sn (s : Int) (E : Nat) (x : Rat) : Prop := ∃ z : Int, (s : Rat) * x = (z : Rat) ∧ z.natAbs ≤ E
theorem sn_zero (s : Int) (E : Nat) : Sn s E 0 := ⟨0, by simp, Nat.zero_le _⟩
theorem sn_up {s u : Int} {E F : Nat} {x : Rat} (h : Sn s E x) (hF : u.natAbs * E ≤ F) : Sn (u * s) F x := by
  obtain ⟨z, e, b⟩ := h
  refine ⟨u * z, ?_, ?_⟩
  · rw [Rat.intCast_mul, Rat.intCast_mul, ← e]; grind
  · rw [Int.natAbs_mul]
    exact Nat.le_trans (Nat.mul_le_mul_left _ b) hF
theorem sn_le {s : Int} {E F : Nat} {x : Rat} (h : Sn s E x) (l : E ≤ F) : Sn s F x := by
  obtain ⟨z, e, b⟩ := h
  exact ⟨z, e, Nat.le_trans b l⟩
/-- an entry as it is drawn, or 0 -/
def EB (q : Rat) : Prop := Ent true q ∧ q.num.natAbs ≤ 10 ^ 40 ∧ q.den ≤ 7
theorem eb_zero : EB 0 := ⟨⟨0, by simp, by decide⟩, by decide, by decide⟩
theorem eb_sn {q : Rat} (h : EB q) : Sn 42 (42 * 10 ^ 40) q := h.1
/-- entries with a common bottom, but for 42 -/
def Bq (D : Nat) (x : Rat) : Prop := Sn (42 * (D : Int)) (42 * D * 2 ^ 134) x
theorem bq_eb {D : Nat} {x : Rat} (h : EB x) : Bq D x := by
  have := sn_up (u := (D : Int)) (F := 42 * D * 2 ^ 134) (eb_sn h) (by
    show D * (42 * 10 ^ 40) ≤ 42 * D * 2 ^ 134
    have h1 : (10 ^ 40 : Nat) ≤ 2 ^ 134 := by decide
    have h2 : D * (42 * 10 ^ 40) = (42 * D) * 10 ^ 40 := by rw [← Nat.mul_assoc, Nat.mul_comm D 42]
    rw [h2]
    exact Nat.mul_le_mul_left _ h1)
  unfold Bq
  rw [Int.mul_comm]
  exact this
theorem mul_bot {a b y : Rat} (hb : b ≠ 0) (h : a / b = y) : y * b = a := by
  rw [← h]
  exact Rat.div_mul_cancel hb
theorem bq_own {x : Rat} (h : x.num.natAbs < 2 ^ 134) : Bq x.den x := by
  refine ⟨42 * x.num, ?_, ?_⟩
  · have h0 := Rat.num_divInt_den x
    rw [Rat.divInt_eq_div] at h0
    have hd : (((x.den : Nat) : Int) : Rat) ≠ 0 := fun e => by
      have : ((x.den : Nat) : Int) = 0 := Rat.intCast_inj.mp (by simpa using e)
      have := x.den_pos
      omega
    have h1 := mul_bot hd h0
    rw [Rat.intCast_mul, Rat.intCast_mul, ← h1]
    grind
  · rw [Int.natAbs_mul]
    show 42 * x.num.natAbs ≤ _
    have h1 : 1 ≤ x.den := x.den_pos
    have h2 : 42 * x.num.natAbs ≤ 42 * 2 ^ 134 := Nat.mul_le_mul_left _ (by omega)
    refine Nat.le_trans h2 ?_
    exact Nat.mul_le_mul_right _ (by omega)
def Cm (P : Nat → Prop) : Prop := ∃ D : Nat, 1 ≤ D ∧ D ≤ 2 ^ 134 ∧ P D
/-- a vector as it is drawn or bent -/
def DrV (t : List Rat) : Prop := Cm fun D => ∀ x ∈ t, Bq D x
/-- a matrix as it is drawn or bent -/
def Dr (A : List (List Rat)) : Prop := A.length ≤ 6 ∧ Cm fun D => ∀ r ∈ A, ∀ x ∈ r, Bq D x
def RX (d : PyData) : Prop := ∀ r, d = vD r → DrV r
def M3 (d : PyData) : Prop := (∀ A, d = mD A → Dr A) ∧ ∀ t, d = vD t → DrV t
/-- all but one -/
def Ex1 (P Q : PyData → Prop) (l : List PyData) : Prop := (∀ x ∈ l, P x) ∨ ∃ l1 b l2, l = l1 ++ b :: l2 ∧ Q b ∧ (∀ x ∈ l1, P x) ∧ ∀ x ∈ l2, P x
theorem tup_inj {a b : List PyData} (h : PyData.tuple a = .tuple b) : a = b := by injection h
theorem rD_ne_vD (q : Rat) (r : List Rat) : rD q ≠ vD r := by
  intro h
  have h2 : [PyData.int q.num, .int (q.den : Int)] = r.map rD := tup_inj h
  cases r with
  | nil => simp at h2
  | cons x r =>
    rw [List.map_cons] at h2
    injection h2 with h3 _
    cases h3
theorem rD_ne_mD (q : Rat) (A : List (List Rat)) : rD q ≠ mD A := by
  intro h
  have h2 : [PyData.int q.num, .int (q.den : Int)] = A.map vD := tup_inj h
  cases A with
  | nil => simp at h2
  | cons x r =>
    rw [List.map_cons] at h2
    injection h2 with h3 _
    cases h3
theorem rD_inj {x y : Rat} (e : rD x = rD y) : x = y := by
  have e2 : ([PyData.int x.num, .int (x.den : Int)] : List PyData) = [.int y.num, .int (y.den : Int)] := by injection e
  have e3 : x.num = y.num := by injection e2 with a _; injection a
  have e4 : (x.den : Int) = (y.den : Int) := by injection e2 with _ b; injection b with b _; injection b
  exact Rat.ext e3 (by omega)
theorem sm_rat {q : Rat} (h : smD (rD q)) : q.num.natAbs < 2 ^ 134 ∧ q.den < 2 ^ 134 := by
  have h2 := smD_tup.mp h
  have h3 := smD_int.mp (smAll_mem h2 (.int q.num) (by simp))
  have h4 := smD_int.mp (smAll_mem h2 (.int (q.den : Int)) (by simp))
  exact ⟨h3, by omega⟩
theorem eb_sm {q : Rat} (h : EB q) : smD (rD q) := by
  refine smD_tup.mpr (smAll_of fun d hd => ?_)
  have : d = .int q.num ∨ d = .int (q.den : Int) := by simpa using hd
  rcases this with e | e
  · rw [e]; exact smD_int.mpr (Nat.lt_of_le_of_lt h.2.1 (by decide))
  · rw [e]
    refine smD_int.mpr (Nat.lt_of_le_of_lt ?_ (show 7 < 2 ^ 134 by decide))
    have := h.2.2
    omega
/-- an entry that is no ratio, or a drawn one -/
def PE2 (x : PyData) : Prop := ∀ q, x = rD q → EB q
/-- a row that is no vector, or a drawn one, and no ratio but 0 -/
def PE3 (x : PyData) : Prop := (∀ r, x = vD r → ∀ y ∈ r, EB y) ∧ ∀ q, x = rD q → EB q
theorem map_mid {α : Type} {f : α → PyData} : ∀ {l1 l2 : List PyData} {b : PyData} {r : List α}, l1 ++ b :: l2 = r.map f → ∃ r1 x r2, r = r1 ++ x :: r2 ∧ l1 = r1.map f ∧ b = f x ∧ l2 = r2.map f := by
  intro l1 l2 b r h
  obtain ⟨r1, r', h1, h2, h3⟩ := List.append_eq_map_iff.mp h
  cases r' with
  | nil => simp at h3
  | cons x r2 =>
    rw [List.map_cons] at h3
    injection h3 with h4 h5
    exact ⟨r1, x, r2, h1, h2.symm, h4.symm, h5.symm⟩
theorem mem_mid {α : Type} {a b : List α} {x y : α} (h : y ∈ a ++ x :: b) : y ∈ a ∨ y = x ∨ y ∈ b := by
  rcases List.mem_append.mp h with h | h
  · exact .inl h
  · rcases List.mem_cons.mp h with h | h
    · exact .inr (.inl h)
    · exact .inr (.inr h)
theorem drv_of {l : List PyData} (h : Ex1 PE2 smD l) {r : List Rat} (e : l = r.map rD) : DrV r := by
  rcases h with h | ⟨l1, b, l2, rfl, hb, h1, h2⟩
  · exact ⟨1, Nat.le_refl _, by decide, fun x hx => bq_eb (h (rD x) (by rw [e]; exact List.mem_map.mpr ⟨x, hx, rfl⟩) x rfl)⟩
  · obtain ⟨r1, x, r2, rfl, rfl, rfl, rfl⟩ := map_mid e
    have sx := sm_rat hb
    refine ⟨x.den, x.den_pos, by omega, fun y hy => ?_⟩
    rcases mem_mid hy with hy | rfl | hy
    · exact bq_eb (h1 (rD y) (List.mem_map.mpr ⟨y, hy, rfl⟩) y rfl)
    · exact bq_own sx.1
    · exact bq_eb (h2 (rD y) (List.mem_map.mpr ⟨y, hy, rfl⟩) y rfl)
theorem rx_of {l : List PyData} (h : Ex1 PE2 smD l) : RX (.tuple l) := fun r e => drv_of h (tup_inj e)
theorem m3_of {l : List PyData} (hl : l.length ≤ 6) (h : Ex1 PE3 (fun b => RX b ∧ smD b) l) : M3 (.tuple l) := by
  refine ⟨fun A e => ?_, fun t e => ?_⟩
  · have e2 := tup_inj e
    refine ⟨by rw [e2, List.length_map] at hl; exact hl, ?_⟩
    rcases h with h | ⟨l1, b, l2, rfl, hb, h1, h2⟩
    · exact ⟨1, Nat.le_refl _, by decide, fun r hr x hx => bq_eb ((h (vD r) (by rw [e2]; exact List.mem_map.mpr ⟨r, hr, rfl⟩)).1 r rfl x hx)⟩
    · obtain ⟨A1, r0, A2, rfl, rfl, rfl, rfl⟩ := map_mid e2
      obtain ⟨D, d1, d2, hD⟩ := hb.1 r0 rfl
      refine ⟨D, d1, d2, fun r hr x hx => ?_⟩
      rcases mem_mid hr with hr | rfl | hr
      · exact bq_eb ((h1 (vD r) (List.mem_map.mpr ⟨r, hr, rfl⟩)).1 r rfl x hx)
      · exact hD x hx
      · exact bq_eb ((h2 (vD r) (List.mem_map.mpr ⟨r, hr, rfl⟩)).1 r rfl x hx)
  · refine drv_of (l := l) ?_ (tup_inj e)
    rcases h with h | ⟨l1, b, l2, e3, hb, h1, h2⟩
    · exact .inl fun x hx => (h x hx).2
    · exact .inr ⟨l1, b, l2, e3, hb.2, fun x hx => (h1 x hx).2, fun x hx => (h2 x hx).2⟩
/-! ### what _law_bent takes and gives, by depth -/
def InB : Nat → PyData → Prop
  | 0, d => ∃ i : Int, d = .int i ∧ i.natAbs ≤ 10 ^ 40
  | 1, d => ∃ q, d = rD q ∧ EB q
  | 2, d => ∃ r : List Rat, d = vD r ∧ r.length ≤ 5 ∧ ∀ x ∈ r, EB x
  | 3, d => ∃ A : List (List Rat), d = mD A ∧ A.length ≤ 5 ∧ ∀ r ∈ A, r.length ≤ 5 ∧ ∀ x ∈ r, EB x
  | _, _ => False
def OutB : Nat → PyData → Prop
  | 0, d => smD d
  | 1, d => smD d
  | 2, d => smD d ∧ RX d
  | _, d => smD d ∧ M3 d
theorem OutB.sm : ∀ {n : Nat} {d : PyData}, OutB n d → smD d
  | 0, _, h => h
  | 1, _, h => h
  | 2, _, h => h.1
  | _ + 3, _, h => h.1
/-- a part that may stand in what comes -/
def PP : Nat → PyData → Prop
  | 0, x => smD x
  | 1, x => smD x
  | 2, x => smD x ∧ PE2 x
  | _, x => smD x ∧ PE3 x
theorem PP.sm : ∀ {n : Nat} {d : PyData}, PP n d → smD d
  | 0, _, h => h
  | 1, _, h => h
  | 2, _, h => h.1
  | _ + 3, _, h => h.1
/-- no tuple -/
def notTup : PyData → Bool
  | .tuple _ => false
  | _ => true
theorem out_non : ∀ {n : Nat} {d : PyData}, notTup d = true → smD d → OutB n d
  | 0, _, _, s => s
  | 1, _, _, s => s
  | 2, d, h, s => ⟨s, fun r e => by rw [e] at h; cases h⟩
  | _ + 3, d, h, s => ⟨s, fun r e => (by rw [e] at h; cases h), fun r e => by rw [e] at h; cases h⟩
theorem out_all {n : Nat} {l : List PyData} (hl : l.length ≤ 6) (h : ∀ x ∈ l, PP n x) : OutB n (.tuple l) := by
  have s : smD (.tuple l) := smD_tup.mpr (smAll_of fun d hd => (h d hd).sm)
  match n, h with
  | 0, _ => exact s
  | 1, _ => exact s
  | 2, h => exact ⟨s, rx_of (.inl fun x hx => (h x hx).2)⟩
  | _ + 3, h => exact ⟨s, m3_of hl (.inl fun x hx => (h x hx).2)⟩
theorem out_one : ∀ {n : Nat} {l1 l2 : List PyData} {b : PyData}, (l1 ++ b :: l2).length ≤ 6 → (∀ x ∈ l1, PP (n + 1) x) → (∀ x ∈ l2, PP (n + 1) x) → OutB n b → n < 3 → OutB (n + 1) (.tuple (l1 ++ b :: l2))
  | n, l1, l2, b, hl, h1, h2, hb, hn => by
    have s : smD (.tuple (l1 ++ b :: l2)) := smD_tup.mpr (smAll_of fun d hd => by
      rcases mem_mid hd with hd | rfl | hd
      · exact (h1 d hd).sm
      · exact hb.sm
      · exact (h2 d hd).sm)
    match n, hn, h1, h2, hb with
    | 0, _, _, _, _ => exact s
    | 1, _, h1, h2, hb => exact ⟨s, rx_of (.inr ⟨l1, b, l2, rfl, hb, fun x hx => (h1 x hx).2, fun x hx => (h2 x hx).2⟩)⟩
    | 2, _, h1, h2, hb => exact ⟨s, m3_of hl (.inr ⟨l1, b, l2, rfl, ⟨hb.2, hb.1⟩, fun x hx => (h1 x hx).2, fun x hx => (h2 x hx).2⟩)⟩
/-- the parts of what is taken -/
theorem in_parts : ∀ {n : Nat} {d : PyData}, InB (n + 1) d → ∃ ds, d = .tuple ds ∧ ds.length ≤ 5 ∧ ∀ x ∈ ds, InB n x
  | 0, d, ⟨q, e, hq⟩ => ⟨[.int q.num, .int (q.den : Int)], e, by simp, fun x hx => by
      have : x = .int q.num ∨ x = .int (q.den : Int) := by simpa using hx
      rcases this with e | e
      · exact ⟨_, e, hq.2.1⟩
      · exact ⟨_, e, by have := hq.2.2; have h7 : (7 : Nat) ≤ 10 ^ 40 := by decide
                        omega⟩⟩
  | 1, d, ⟨r, e, hl, h⟩ => ⟨r.map rD, e, by rw [List.length_map]; exact hl, fun x hx => by
      obtain ⟨q, hq, rfl⟩ := List.mem_map.mp hx
      exact ⟨q, rfl, h q hq⟩⟩
  | 2, d, ⟨A, e, hl, h⟩ => ⟨A.map vD, e, by rw [List.length_map]; exact hl, fun x hx => by
      obtain ⟨r, hr, rfl⟩ := List.mem_map.mp hx
      exact ⟨r, rfl, h r hr⟩⟩
  | _ + 3, _, h => h.elim
theorem in_pp : ∀ {n : Nat} {x : PyData}, InB n x → PP (n + 1) x
  | 0, x, ⟨i, e, h⟩ => by
    rw [e]
    exact smD_int.mpr (Nat.lt_of_le_of_lt h (by decide))
  | 1, x, ⟨q, e, h⟩ => by
    rw [e]
    exact ⟨eb_sm h, fun q' e' => by rw [← rD_inj e']; exact h⟩
  | 2, x, ⟨r, e, _, h⟩ => by
    rw [e]
    refine ⟨smD_tup.mpr (smAll_of fun d hd => ?_), fun r' e' => ?_, fun q e' => absurd e'.symm (rD_ne_vD q r)⟩
    · obtain ⟨q, hq, rfl⟩ := List.mem_map.mp hd
      exact eb_sm (h q hq)
    · rw [← vD_inj e']; exact h
  | 3, x, ⟨A, e, _, h⟩ => by
    rw [e]
    refine ⟨smD_tup.mpr (smAll_of fun d hd => ?_), fun r' e' => ?_, fun q e' => absurd e'.symm (rD_ne_mD q A)⟩
    · obtain ⟨r, hr, rfl⟩ := List.mem_map.mp hd
      refine smD_tup.mpr (smAll_of fun d hd => ?_)
      obtain ⟨q, hq, rfl⟩ := List.mem_map.mp hd
      exact eb_sm ((h r hr).2 q hq)
    · have e2 := tup_inj e'
      cases A with
      | nil =>
        cases r' with
        | nil => intro y hy; simp at hy
        | cons _ _ => simp at e2
      | cons a A =>
        cases r' with
        | nil => simp at e2
        | cons y r' =>
          rw [List.map_cons, List.map_cons] at e2
          injection e2 with e3 _
          exact absurd e3.symm (rD_ne_vD y a)
  | _ + 4, _, h => h.elim
end K42

set_option Elab.async false
set_option linter.all false
set_option maxRecDepth 100000
set_option exponentiation.threshold 20000
namespace K42
open PySem PySem.Spec PyProof.Rows L2 Ly Mt El
theorem pp_zero : ∀ n : Nat, PP n (.tuple [.int 0, .int 1])
  | 0 => eb_sm eb_zero
  | 1 => eb_sm eb_zero
  | 2 => ⟨eb_sm eb_zero, fun q e => by rw [← rD_inj (x := 0) e]; exact eb_zero⟩
  | _ + 3 => ⟨eb_sm eb_zero, fun r e => absurd (show rD 0 = vD r from e) (rD_ne_vD 0 r), fun q e => by rw [← rD_inj (x := 0) e]; exact eb_zero⟩
theorem pp_int0 : ∀ n : Nat, PP n (.int 0)
  | 0 => smD_int.mpr (by decide)
  | 1 => smD_int.mpr (by decide)
  | 2 => ⟨smD_int.mpr (by decide), fun q e => (by cases e)⟩
  | _ + 3 => ⟨smD_int.mpr (by decide), fun r e => (by cases e), fun q e => (by cases e)⟩
theorem pp_nil : ∀ n : Nat, PP n (.tuple [])
  | 0 => smD_tup.mpr (smAll_of fun _ h => by simp at h)
  | 1 => smD_tup.mpr (smAll_of fun _ h => by simp at h)
  | 2 => ⟨smD_tup.mpr (smAll_of fun _ h => by simp at h), fun q e => absurd (show rD q = vD [] from e.symm) (rD_ne_vD q [])⟩
  | _ + 3 => ⟨smD_tup.mpr (smAll_of fun _ h => by simp at h), fun r e => (by
      have e2 := tup_inj e
      cases r with
      | nil => intro y hy; simp at hy
      | cons _ _ => simp at e2), fun q e => absurd (show rD q = vD [] from e.symm) (rD_ne_vD q [])⟩
theorem in_self : ∀ {n : Nat} {x : PyData}, InB n x → PP n x
  | 0, x, h => in_pp (n := 0) h
  | 1, x, ⟨q, e, h⟩ => by rw [e]; exact eb_sm h
  | 2, x, h => by
    have s := (in_pp h).sm
    obtain ⟨r, rfl, _, _⟩ := h
    exact ⟨s, fun q e => absurd e.symm (rD_ne_vD q r)⟩
  | 3, x, h => in_pp (n := 3) h
  | _ + 4, _, h => h.elim
theorem lay_rats : ∀ r : List Rat, PyData.canLayAll0 (r.map rD) = true
  | [] => by simp [PyData.canLayAll0]
  | q :: r => by
    have := lay_rats r
    simp [PyData.canLayAll0, rD, PyData.canLay0, this]
theorem lay_vecs : ∀ A : List (List Rat), PyData.canLayAll0 (A.map vD) = true
  | [] => by simp [PyData.canLayAll0]
  | r :: A => by
    have h1 := lay_rats r
    have h2 := lay_vecs A
    simp [PyData.canLayAll0, vD, PyData.canLay0, h1] at h2 ⊢
    exact h2
theorem deep_rats : ∀ r : List Rat, PyData.depthAll (r.map rD) ≤ 2
  | [] => by simp [PyData.depthAll]
  | q :: r => by
    have := deep_rats r
    have h0 : PyData.depth (rD q) ≤ 2 := by simp [rD, PyData.depth, PyData.depthAll]
    simp only [List.map_cons, PyData.depthAll]
    omega
theorem deep_vecs : ∀ A : List (List Rat), PyData.depthAll (A.map vD) ≤ 3
  | [] => by simp [PyData.depthAll]
  | r :: A => by
    have h1 := deep_vecs A
    have h2 := deep_rats r
    have h0 : PyData.depth (vD r) ≤ 3 := by simp only [vD, PyData.depth]; omega
    simp only [List.map_cons, PyData.depthAll]
    omega
theorem shaped_of {d : PyData} (h : PyData.canLay0 d = true) (h2 : PyData.depth d ≤ 64) : SeqAt.shaped d = true := by
  show (PyData.canLay0 d && decide (PyData.depth d ≤ 64)) = true
  rw [h, decide_eq_true h2]; rfl
theorem shaped_vec (r : List Rat) : SeqAt.shaped (vD r) = true := shaped_of (by simp only [vD, PyData.canLay0]; exact lay_rats r) (by have := deep_rats r; simp only [vD, PyData.depth]; omega)
theorem shaped_mat (A : List (List Rat)) : SeqAt.shaped (mD A) = true := shaped_of (by simp only [mD, PyData.canLay0]; exact lay_vecs A) (by have := deep_vecs A; simp only [mD, PyData.depth]; omega)
theorem shaped_in : ∀ {n : Nat} {d : PyData}, InB (n + 1) d → SeqAt.shaped d = true
  | 0, _, ⟨q, e, _⟩ => by rw [e]; exact shaped_rat q
  | 1, _, ⟨r, e, _⟩ => by rw [e]; exact shaped_vec r
  | 2, _, ⟨A, e, _⟩ => by rw [e]; exact shaped_mat A
  | _ + 3, _, h => h.elim
theorem shaped_nilT : SeqAt.shaped (.tuple []) = true := shaped_vec []
theorem eqv_nilT (ds : List PyData) : PyData.eqv (.tuple ds) (.tuple []) = ds.isEmpty := by
  cases ds <;> simp [PyData.eqv, PyData.eqvAll]
/-- no source of draws -/
def NC (c L : Addr) : Addr → Prop := fun a => a ≠ c ∧ a ≠ L
theorem fr_but {c L : Addr} {H H' : Hp} {n : Nat} (b : But c L H H') (u : Cup H c L n) : Fr (NC c L) H H' := ⟨b.tk u, fun a xs s e => b a _ s.1 s.2 e⟩
section
variable {P : Program} {w : World} {K : PySem.W.Frag} {mg : Str → Option Value} {base : Heap} {C : Addr}
theorem cut_whole {xs : List V} {lo hi : Option Int} (h : HT.sIx xs.length 0 lo = 0 ∧ HT.sIx xs.length xs.length hi = xs.length) : cutV xs lo hi = xs := by
  unfold cutV
  rw [h.1, h.2]; simp
theorem sl_any {a : Addr} {xs : List V} {lo hi : Option Int} {H : Hp} {Q : VK} (h : ITup K H a xs) (q : ∀ p H', Same H H' → ITup K H' p (cutV xs lo hi) → Q (.ref p) H') : rSlA K (.ref a) lo hi H Q :=
  ⟨a, xs, rfl, h.sq, fun w => q a H (Same.refl H) (by rw [cut_whole w]; exact h), fun _ p hp => q p _ (same_new hp) (.inl upd_same)⟩
theorem cat_any {a b : Addr} {xs ys : List V} {H : Hp} {Q : VK} (h : ITup K H a xs) (h2 : ITup K H b ys) (hz : xs.length + ys.length ≤ 1000) (q : ∀ p H', Same H H' → ITup K H' p (xs ++ ys) → Q (.ref p) H') : rCatA K (.ref a) (.ref b) H Q := by
  refine ⟨a, b, xs, ys, rfl, rfl, h.sq, h2.sq, Nat.le_of_lt (small1000 hz), fun e => q b H (Same.refl H) (by rw [e]; exact h2), fun _ e => q a H (Same.refl H) (by rw [e, List.append_nil]; exact h), fun _ _ p hp => q p _ (same_new hp) (.inl upd_same)⟩
/-- a tuple's repetition -/
theorem rep_any {l : Addr} {x : V} {H : Hp} {n : Nat} {Q : VK} (h : ITup K H l [x]) (hn : n ≤ 1000) (q : ∀ p H', Same H H' → ITup K H' p (List.replicate n x) → Q (.ref p) H') : rRepTA K (.ref l) (.int n) H Q := by
  refine ⟨l, n, [x], rfl, rfl, h.sq, by simp, by omega, by omega, by show 1 ≤ 1000; decide, fun e => ?_, fun _ p hp => q p _ (same_new hp) (.inl ?_)⟩
  · have e1 : n = 1 := by omega
    subst e1
    exact q l H (Same.refl H) h
  · show (upd H p (.tup (List.replicate n [x]).flatten)) p = _
    rw [flat1]
    exact upd_same
theorem cut_hi {xs : List V} {k : Nat} : (cutV xs none (some (k : Int))).length ≤ k := by
  unfold cutV
  rw [HT.sIx_nat, HT.sIx_none, List.length_take]
  omega
theorem cut_lo {xs : List V} {k : Nat} : (cutV xs (some (k : Int)) none).length ≤ xs.length - k := by
  unfold cutV
  rw [HT.sIx_nat, HT.sIx_none, List.length_take, List.length_drop]
  omega
theorem cut_mid {xs : List V} {k : Nat} : (cutV xs (some (k : Int)) (some ((k + 1 : Nat) : Int))).length ≤ 1 := by
  unfold cutV
  rw [HT.sIx_nat, HT.sIx_nat, List.length_take]
  omega
variable {S : Addr → Prop}
theorem da_cut {H : Hp} {xs : List V} {ds : List PyData} {lo hi : Option Int} (h : DaAll K S H xs ds) : ∃ es, DaAll K S H (cutV xs lo hi) es ∧ ∀ x ∈ es, x ∈ ds := by
  unfold cutV
  exact ⟨_, DaAll.take _ (DaAll.drop _ h), fun x hx => List.mem_of_mem_drop (List.mem_of_mem_take hx)⟩
theorem sl_da {a : Addr} {xs : List V} {ds : List PyData} {lo hi : Option Int} {H : Hp} {Q : VK} (h : ITup K H a xs) (hd : DaAll K S H xs ds) (q : ∀ p H' es, Same H H' → ITup K H' p (cutV xs lo hi) → DaAll K S H' (cutV xs lo hi) es → (∀ x ∈ es, x ∈ ds) → Q (.ref p) H') : rSlA K (.ref a) lo hi H Q :=
  sl_any h fun p H' sm it => by
    obtain ⟨es, h1, h2⟩ := da_cut (lo := lo) (hi := hi) (DaAll.mono (fr_same sm) _ hd)
    exact q p H' es sm it h1 h2
theorem cat_da {a b : Addr} {xs ys : List V} {ds es : List PyData} {H : Hp} {Q : VK} (h : ITup K H a xs) (hd : DaAll K S H xs ds) (h2 : ITup K H b ys) (hd2 : DaAll K S H ys es) (hz : xs.length + ys.length ≤ 1000) (q : ∀ p H', Same H H' → ITup K H' p (xs ++ ys) → DaAll K S H' (xs ++ ys) (ds ++ es) → Q (.ref p) H') : rCatA K (.ref a) (.ref b) H Q :=
  cat_any h h2 hz fun p H' sm it => q p H' sm it (DaAll.mono (fr_same sm) _ (hd.app hd2))
/-- values that may come of it -/
def Al (K : PySem.W.Frag) (S : Addr → Prop) (n : Nat) (H : Hp) (xs : List V) : Prop := ∀ x ∈ xs, ∃ d, Da K S H x d ∧ OutB n d
theorem al_nil {n : Nat} {H : Hp} : Al K S n H [] := fun x h => by simp at h
theorem Al.mono {n : Nat} {H H' : Hp} {xs : List V} (h : Al K S n H xs) (f : Fr S H H') : Al K S n H' xs := fun x hx => by
  obtain ⟨d, h1, h2⟩ := h x hx
  exact ⟨d, Da.mono f _ h1, h2⟩
theorem Al.add {n : Nat} {H : Hp} {xs : List V} {v : V} {d : PyData} (h : Al K S n H xs) (hv : Da K S H v d) (o : OutB n d) : Al K S n H (xs ++ [v]) := fun x hx => by
  rcases List.mem_append.mp hx with hx | hx
  · exact h x hx
  · rw [List.mem_singleton.mp hx]; exact ⟨d, hv, o⟩
theorem Al.app {n : Nat} {H : Hp} {xs ys : List V} (h : Al K S n H xs) (h2 : Al K S n H ys) : Al K S n H (xs ++ ys) := fun x hx => by
  rcases List.mem_append.mp hx with hx | hx
  · exact h x hx
  · exact h2 x hx
abbrev s__law_bent : Stmt := topS 47
theorem sc__law_bent : FnScope ["cup", "thing", "k", "j", "some"] ["cup", "thing"] (defScope s__law_bent) := ⟨rfl, rfl, rfl, by decide +kernel, rfl, by decide +kernel, by decide +kernel⟩
def sp_bent (K : PySem.W.Frag) : Nat → Sp
  | 0 => fun _ _ _ _ => False
  | n + 1 => fun vs H Q _ => ∃ (c L : Addr) (v : V) (d : PyData) (fuel : Nat), vs = [.ref c, v] ∧ Cup H c L (fuel + 4 * (n + 1)) ∧ Im K H v d ∧ InB n d ∧ ∀ v' d' H', Da K (NC c L) H' v' d' → OutB n d' → Cup H' c L fuel → But c L H H' → Q v' H'
theorem ok_bent0 {f : Addr} {fd : FuncData} {k : Nat} (F : Fun K "_law_bent" "_law_bent" s__law_bent f fd) : FnOk P w K mg base CX0 (k + 1) f fd ["cup", "thing"] (sp_bent K 0) := by
  refine F.ok sc__law_bent (fun vs H Q E h => h.elim) (fun cdv A outer s H vs Q E hr h => h.elim)
set_option maxHeartbeats 4000000 in
theorem ok__law_bent {f : Addr} {fd : FuncData} {k : Nat} (F : Fun K "_law_bent" "_law_bent" s__law_bent f fd) (T : Tx K mg C){n : Nat} {ki : Nat} (D__law_sip : Def P w K mg base ki "_law_sip" s__law_sip ["cup", "many"] sp_sip) {kj : Nat} (D__law_bent : Def P w K mg base kj "_law_bent" s__law_bent ["cup", "thing"] (sp_bent K n)) (hk : ki ≤ k) (hj : kj ≤ k) : FnOk P w K mg base CX0 (k + 1) f fd ["cup", "thing"] (sp_bent K (n + 1)) := by
  have nd := sc__law_bent.nd
  refine F.ok sc__law_bent (fun vs H Q E h => ?_) (fun cdv A outer s H vs Q E hr h => ?_)
  · obtain ⟨_, _, _, _, _, rfl, _⟩ := h
    rfl
  · obtain ⟨c, L, v, d, fuel, rfl, u, iv, ib, q⟩ := h
    refine ⟨_, (C8.pss_cut (ps_if (PW.pt (pw_and (pt_val (pe_callB (kcall_isi K) (by rfl) T.m_isinstance (by decide +kernel) (pa_cons (pv 1) (pa_cons (pe_bltn (v := .ty "tuple") (u := .type "tuple") (by rfl) T.m_tuple (by decide +kernel) rfl) pa_nil)))) (pw_and (pt_cmpR (kop_neD K hr.units) (pv 1) (pe_tup pa_nil) (nomark _)) (pw_and1 (pt_cmpR op_gt (pe_def D__law_sip (hr.mono (by omega)) rfl (pa_cons (pv 0) (pa_cons pe_int pa_nil))) pe_int (nomark _))))))
        (pss_cons (ps_set (i := 2) nd rfl (.inl rfl) (pe_def D__law_sip (hr.mono (by omega)) rfl (pa_cons (pv 0) (pa_cons (pe_callB (kcall_len K) (by rfl) T.m_len PySem.boot_len (pa_cons (pv 1) pa_nil)) pa_nil))))
        (pss_one (ps_ret (pe_op (kop_catA K) (pe_op (kop_catA K) (pe_slice (ksl_tupA K) (pv 1) po_none (po_some (pv 2))) (pe_tup (pa_cons (pe_def D__law_bent (hr.mono (by omega)) rfl (pa_cons (pv 0) (pa_cons (pe_ix (kix_tup K) (pv 1) (pv 2) (fun _ _ => rfl)) pa_nil))) pa_nil))) (pe_slice (ksl_tupA K) (pv 1) (po_some (pe_op op_add (pv 2) pe_int)) po_none)))))
        pss_nil)
      (pss_cons (ps_if (pt_val (pe_callB (kcall_isi K) (by rfl) T.m_isinstance (by decide +kernel) (pa_cons (pv 1) (pa_cons (pe_bltn (v := .ty "tuple") (u := .type "tuple") (by rfl) T.m_tuple (by decide +kernel) rfl) pa_nil))))
        (pss_cons (ps_par (i := 2) (j := 3) (by rfl) nd rfl rfl (by decide) rfl rfl (pa_cons (pe_def D__law_sip (hr.mono (by omega)) rfl (pa_cons (pv 0) (pa_cons (pe_op op_add (pe_callB (kcall_len K) (by rfl) T.m_len PySem.boot_len (pa_cons (pv 1) pa_nil)) pe_int) pa_nil))) (pa_cons (pe_def D__law_sip (hr.mono (by omega)) rfl (pa_cons (pv 0) (pa_cons (pe_op op_add (pe_callB (kcall_len K) (by rfl) T.m_len PySem.boot_len (pa_cons (pv 1) pa_nil)) pe_int) pa_nil))) pa_nil)) (by rfl))
        (pss_cons (ps_set (i := 4) nd rfl (.inl rfl) (pe_lst (pa_cons (pe_op (kop_catA K) (pe_slice (ksl_tupA K) (pv 1) po_none (po_some (pv 2))) (pe_slice (ksl_tupA K) (pv 1) (po_some (pe_op op_add (pv 2) pe_int)) po_none)) (pa_cons (pe_op (kop_catA K) (pe_op (kop_catA K) (pe_slice (ksl_tupA K) (pv 1) po_none (po_some (pv 2))) (pe_slice (ksl_tupA K) (pv 1) (po_some (pv 2)) (po_some (pe_op op_add (pv 2) pe_int)))) (pe_slice (ksl_tupA K) (pv 1) (po_some (pv 2)) po_none)) (pa_cons (kpe_revT K (pv 1)) (pa_cons (pe_callTy (kcall_list K) (by rfl) T.m_list (by decide +kernel) (pa_cons (pv 1) pa_nil)) (pa_cons (pe_op (kop_catA K) (pv 1) (pe_tup (pa_cons (pe_tup (pa_cons pe_int (pa_cons pe_int pa_nil))) pa_nil))) pa_nil)))))))
        (pss_cons (ps_set (i := 4) nd rfl (.inl rfl) (pe_op op_cat (pv 4) (pe_lst (pa_cons (pe_tup (pa_cons (pv 1) pa_nil)) (pa_cons (pe_op (kop_catA K) (pe_op (kop_catA K) (pe_slice (ksl_tupA K) (pv 1) po_none (po_some (pv 2))) (pe_slice (ksl_tupA K) (pv 1) (po_some (pv 3)) (po_some (pe_op op_add (pv 3) pe_int)))) (pe_slice (ksl_tupA K) (pv 1) (po_some (pe_op op_add (pv 2) pe_int)) po_none)) (pa_cons pe_non (pa_cons (pe_tup pa_nil) (pa_cons (pe_lst pa_nil) (pa_cons pe_str (pa_cons (pe_op (kop_catA K) (pv 1) (pe_tup (pa_cons pe_int pa_nil))) (pa_cons (pe_op (kop_catA K) (pv 1) (pe_tup (pa_cons (pe_tup pa_nil) pa_nil))) pa_nil)))))))))))
        (pss_one (ps_ret (pe_ix (kix_list K) (pv 4) (pe_def D__law_sip (hr.mono (by omega)) rfl (pa_cons (pv 0) (pa_cons pe_int pa_nil))) (fun _ _ => rfl)))))))
        pss_nil)
      (pss_cons (ps_set (i := 4) nd rfl (.inl rfl) (pe_lst (pa_cons pe_non (pa_cons pe_bl (pa_cons pe_bl (pa_cons (pe_callTy call_str_int (by rfl) T.m_str (by decide +kernel) (pa_cons (pv 1) pa_nil)) (pa_cons (pe_tup (pa_cons (pv 1) pa_nil)) (pa_cons (pe_lst (pa_cons (pv 1) pa_nil)) (pa_cons pe_str (pa_cons pe_str (pa_cons (pe_tup pa_nil) (pa_cons pe_int (pa_cons pe_int (pa_cons pe_int (pa_cons (pe_op op_pow pe_int pe_int) pa_nil)))))))))))))))
      (pss_cons (ps_if (pt_val (pe_callB (kcall_isi K) (by rfl) T.m_isinstance (by decide +kernel) (pa_cons (pv 1) (pa_cons (pe_bltn (v := .ty "int") (u := .type "int") (by rfl) T.m_int (by decide +kernel) rfl) pa_nil))))
        (pss_one (ps_set (i := 4) nd rfl (.inl rfl) (pe_op op_cat (pv 4) (pe_lst (pa_cons (pe_op op_add (pv 1) pe_int) (pa_cons (pe_op op_sub (pv 1) pe_int) (pa_cons (pe_un un_neg (pv 1)) (pa_cons (pe_op op_mulW (pv 1) pe_int) (pa_cons (pe_op op_add (pv 1) pe_int) (pa_cons (pe_op op_sub (pv 1) pe_int) (pa_cons (pe_op op_sub (pe_un un_neg (pv 1)) pe_int) pa_nil)))))))))))
        pss_nil)
      (pss_one (ps_ret (pe_ix (kix_list K) (pv 4) (pe_def D__law_sip (hr.mono (by omega)) rfl (pa_cons (pv 0) (pa_cons (pe_callB (kcall_len K) (by rfl) T.m_len PySem.boot_len (pa_cons (pv 4) pa_nil)) pa_nil))) (fun _ _ => rfl)))))))), ?_⟩
    match n, ib with
    | 0, ib =>
    obtain ⟨i, rfl, hi⟩ := ib
    obtain rfl := iv.int_inv
    refine ⟨fun σ' H' => σ' = [some (.ref c), some (.int i), none, none, none] ∧ H' = H, ?_, ?_⟩
    · exact ⟨.int i, rfl, .int i, _, .type "int", _, false, rfl, .ty _, .base (.int i), kit_ty (by decide +kernel), false, rfl, iteF (iteF ⟨rfl, rfl⟩)⟩
    · rintro σ' H' ⟨rfl, rfl⟩
      have i134 : i.natAbs < 2 ^ 134 := Nat.lt_of_le_of_lt hi (by decide)
      refine ⟨.int i, rfl, .int i, _, .type "int", _, false, rfl, .ty _, .base (.int i), kit_ty (by decide +kernel), false, rfl, iteF ?_⟩
      have al : Al K (NC c L) 0 H' [] := al_nil
      have sm : Same H' H' := Same.refl H'
      replace al := al.add .non (out_non rfl (by simp [smD]))
      replace al := al.add (.bl true) (out_non rfl (by simp [smD]))
      replace al := al.add (.bl false) (out_non rfl (by simp [smD]))
      refine ⟨.int i, rfl, i, rfl, ?_, ?_⟩
      · by_cases h0 : i.natAbs = 0
        · rw [h0, Nat.log2_zero]; decide
        · exact Nat.lt_of_lt_of_le ((Nat.log2_lt h0).mpr i134) (by decide)
      replace al := al.add (.str (toString i)) (out_non rfl (by simp [smD]))
      refine ⟨.int i, rfl, by show 1 ≤ sizeLine; decide, fun t1 ht1 => ?_⟩
      have s1 := same_new (o := .tup [.int i]) ht1
      have e1 : (upd H' t1 (.tup [.int i])) t1 = some (.tup [.int i]) := upd_same
      generalize upd H' t1 (.tup [.int i]) = G1 at *
      have al1 := (al.mono (fr_same s1)).add (.tup (.inl e1) (.cons (.int i) .nil)) (show OutB 0 (.tuple [.int i]) from smD_tup.mpr (smAll_of fun x hx => by rw [List.mem_singleton.mp hx]; exact smD_int.mpr i134))
      refine ⟨.int i, rfl, by show 1 ≤ sizeLine; decide, fun t2 ht2 => ?_⟩
      have ne2 := (u.same s1).ne ht2
      have s2 := same_new (o := .lst [.int i]) ht2
      have e2 : (upd G1 t2 (.lst [.int i])) t2 = some (.lst [.int i]) := upd_same
      generalize upd G1 t2 (.lst [.int i]) = G2 at *
      have al2 := (al1.mono (fr_same s2)).add (.lst (S := NC c L) ne2 e2 (.cons (.int i) .nil)) (out_non rfl (by simp [smD]))
      replace al2 := al2.add (.str ("A" : Str)) (out_non rfl (by simp [smD]))
      replace al2 := al2.add (.str ("x1" : Str)) (out_non rfl (by simp [smD]))
      refine ⟨by show 0 ≤ sizeLine; decide, fun t3 ht3 => ?_⟩
      have s3 := same_new (o := .tup []) ht3
      have e3 : (upd G2 t3 (.tup [])) t3 = some (.tup []) := upd_same
      generalize upd G2 t3 (.tup []) = G3 at *
      have al3 := (al2.mono (fr_same s3)).add (.tup (.inl e3) .nil) (out_all (n := 0) (l := []) (by simp) (fun y hy => by simp at hy))
      have iok0 : ∀ j : Int, j.natAbs < 2 ^ 134 → OutB 0 (.int j) := fun j hj => smD_int.mpr hj
      replace al3 := al3.add (.int 0) (iok0 0 (by decide))
      replace al3 := al3.add (.int 1) (iok0 1 (by decide))
      replace al3 := al3.add (.int 2) (iok0 2 (by decide))
      replace al3 := al3.add (.int ((10 : Int) ^ (30 : Int).toNat)) (iok0 _ (by decide))
      refine ⟨_, _, rfl, rfl, ⟨by decide, by decide, by decide⟩, by show 13 ≤ sizeLine; decide, fun lA hlA => ?_⟩
      have sA := same_new (o := .lst [V.non, V.bl true, V.bl false, V.str (toString i), V.ref t1, V.ref t2, V.str "A", V.str "x1", V.ref t3, V.int 0, V.int 1, V.int 2, V.int ((10 : Int) ^ (30 : Int).toNat)]) hlA
      have eA : (upd G3 lA (.lst [V.non, V.bl true, V.bl false, V.str (toString i), V.ref t1, V.ref t2, V.str "A", V.str "x1", V.ref t3, V.int 0, V.int 1, V.int 2, V.int ((10 : Int) ^ (30 : Int).toNat)])) lA = some (.lst [V.non, V.bl true, V.bl false, V.str (toString i), V.ref t1, V.ref t2, V.str "A", V.str "x1", V.ref t3, V.int 0, V.int 1, V.int 2, V.int ((10 : Int) ^ (30 : Int).toNat)]) := upd_same
      have alA := al3.mono (fr_same sA)
      have u3 := (((u.same s1).same s2).same s3).same sA
      generalize upd G3 lA (.lst [V.non, V.bl true, V.bl false, V.str (toString i), V.ref t1, V.ref t2, V.str "A", V.str "x1", V.ref t3, V.int 0, V.int 1, V.int 2, V.int ((10 : Int) ^ (30 : Int).toNat)]) = XA at *
      have sm3 := ((s1.trans s2).trans s3).trans sA
      refine ⟨.int i, rfl, .int i, _, .type "int", _, true, rfl, .ty _, .base (.int i), kit_ty (by decide +kernel), true, rfl, iteT ?_⟩
      refine ⟨.ref lA, rfl, .int i, rfl, _, _, rfl, rfl, .int i, rfl, _, _, rfl, rfl, .int i, rfl, i, rfl, .int i, rfl, _, _, rfl, rfl, wide_mul i134 (show (2 : Int).natAbs < 2 ^ 2 by decide) (by decide) (by decide) (by decide), .int i, rfl, _, _, rfl, rfl, .int i, rfl, _, _, rfl, rfl, .int i, rfl, i, rfl, _, _, rfl, rfl, by show 7 ≤ sizeLine; decide, fun lB hlB => ?_⟩
      have sB := same_new (o := .lst [V.int (i + 1), V.int (i - 1), V.int (-i), V.int (i * 2), V.int (i + 1), V.int (i - 1), V.int (-i - 1)]) hlB
      have eB : (upd XA lB (.lst [V.int (i + 1), V.int (i - 1), V.int (-i), V.int (i * 2), V.int (i + 1), V.int (i - 1), V.int (-i - 1)])) lB = some (.lst [V.int (i + 1), V.int (i - 1), V.int (-i), V.int (i * 2), V.int (i + 1), V.int (i - 1), V.int (-i - 1)]) := upd_same
      generalize upd XA lB (.lst [V.int (i + 1), V.int (i - 1), V.int (-i), V.int (i * 2), V.int (i + 1), V.int (i - 1), V.int (-i - 1)]) = XB at *
      have p134 : (2 : Nat) ^ 134 = 21778071482940061661655974875633165533184 := by decide
      have p40 : (10 : Nat) ^ 40 = 10000000000000000000000000000000000000000 := by decide
      have iok : ∀ j : Int, j.natAbs ≤ 2 * i.natAbs + 1 → OutB 0 (.int j) := fun j hj => iok0 j (by rw [p134]; rw [p40] at hi; omega)
      have alB : Al K (NC c L) 0 XB [] := al_nil
      replace alB := alB.add (.int (i + 1)) (iok _ (by omega))
      replace alB := alB.add (.int (i - 1)) (iok _ (by omega))
      replace alB := alB.add (.int (-i)) (iok _ (by omega))
      replace alB := alB.add (.int (i * 2)) (iok _ (by omega))
      replace alB := alB.add (.int (i + 1)) (iok _ (by omega))
      replace alB := alB.add (.int (i - 1)) (iok _ (by omega))
      replace alB := alB.add (.int (-i - 1)) (iok _ (by omega))
      have alC := (alA.mono (fr_same sB)).app alB
      refine ⟨lA, lB, _, _, rfl, rfl, sB _ _ eA, eB, by show 20 ≤ sizeLine; decide, fun lC hlC => ?_⟩
      have uB := u3.same sB
      have neC := uB.ne hlC
      have sC := same_new (o := .lst ([V.non, V.bl true, V.bl false, V.str (toString i), V.ref t1, V.ref t2, V.str ("A" : Str), V.str ("x1" : Str), V.ref t3, V.int 0, V.int 1, V.int 2, V.int ((10 : Int) ^ (30 : Int).toNat)] ++ [V.int (i + 1), V.int (i - 1), V.int (-i), V.int (i * 2), V.int (i + 1), V.int (i - 1), V.int (-i - 1)])) hlC
      have eC : (upd XB lC (.lst ([V.non, V.bl true, V.bl false, V.str (toString i), V.ref t1, V.ref t2, V.str ("A" : Str), V.str ("x1" : Str), V.ref t3, V.int 0, V.int 1, V.int 2, V.int ((10 : Int) ^ (30 : Int).toNat)] ++ [V.int (i + 1), V.int (i - 1), V.int (-i), V.int (i * 2), V.int (i + 1), V.int (i - 1), V.int (-i - 1)]))) lC = some (.lst ([V.non, V.bl true, V.bl false, V.str (toString i), V.ref t1, V.ref t2, V.str ("A" : Str), V.str ("x1" : Str), V.ref t3, V.int 0, V.int 1, V.int 2, V.int ((10 : Int) ^ (30 : Int).toNat)] ++ [V.int (i + 1), V.int (i - 1), V.int (-i), V.int (i * 2), V.int (i + 1), V.int (i - 1), V.int (-i - 1)])) := upd_same
      generalize hLL : ([V.non, V.bl true, V.bl false, V.str (toString i), V.ref t1, V.ref t2, V.str ("A" : Str), V.str ("x1" : Str), V.ref t3, V.int 0, V.int 1, V.int 2, V.int ((10 : Int) ^ (30 : Int).toNat)] ++ [V.int (i + 1), V.int (i - 1), V.int (-i), V.int (i * 2), V.int (i + 1), V.int (i - 1), V.int (-i - 1)]) = LL at *
      have alL : Al K (NC c L) 0 XB LL := by rw [← hLL]; exact alC
      have ll : LL.length = 20 := by rw [← hLL]; rfl
      have alX := alL.mono (fr_same sC)
      generalize upd XB lC (.lst LL) = XC at *
      have uC := uB.same sC
      refine ⟨.ref lC, rfl, .ref c, rfl, .ref lC, rfl, lC, _, rfl, .inl (.of eC), c, L, _, fuel, rfl, uC.less (by omega), by rw [ll]; decide, by rw [ll]; decide, fun dz H9 dz0 dz1 u9 b9 => ?_⟩
      have fr9 : Fr (NC c L) XC H9 := fr_but b9 uC
      have eC9 := b9 _ _ neC.1 neC.2 eC
      obtain ⟨z', rfl⟩ : ∃ z' : Nat, dz = (z' : Int) := ⟨dz.toNat, by omega⟩
      have zl : z' < LL.length := by omega
      have hz := List.getElem?_eq_getElem zl
      obtain ⟨d', da', ob'⟩ := (alX.mono fr9) _ (List.getElem_mem zl)
      exact ⟨lC, _, _, _, rfl, rfl, .of eC9, atI_nat hz, q _ d' H9 da' ob' u9 ((but_same ((sm3.trans sB).trans sC)).trans b9)⟩
    | n + 1, ib =>
    obtain ⟨ds, rfl, l5, parts⟩ := in_parts ib
    obtain ⟨a, xs, rfl, ha, hxs⟩ := iv.tuple_inv
    have lx : xs.length = ds.length := hxs.length
    have isT : ∀ {H' : Hp} {Q' : VK}, ITup K H' a xs → Q' (.bl true) H' → rIsi K [.ref a, .ty "tuple"] H' Q' := fun h q' => ⟨.ref a, _, .type "tuple", _, true, rfl, .ty _, ity h, kit_ty (by decide +kernel), q'⟩
    have sh0 := shaped_in ib
    have nlt : n < 3 := by
      match n, ib with
      | 0, _ => decide
      | 1, _ => decide
      | 2, _ => decide
      | _ + 3, h => exact h.elim
    refine ⟨fun σ' H' => σ' = [some (.ref c), some (.ref a), none, none, none] ∧ Cup H' c L (fuel + 3) ∧ But c L H H', ?_, ?_⟩
    · refine ⟨.ref a, rfl, .ref a, _, .type "tuple", _, true, rfl, .ty _, ity ha, kit_ty (by decide +kernel), true, rfl, iteT ?_⟩
      refine ⟨.ref a, rfl, by show 0 ≤ sizeLine; decide, fun e he => ?_⟩
      have sm1 : Same H (upd H e (.tup [])) := same_new he
      have ie : SqT K (upd H e (.tup [])) e [] := .of upd_same
      generalize upd H e (.tup []) = G1 at *
      have u1 := u.same sm1
      refine ⟨.tuple ds, .tuple [], Im.dp _ (Im.mono (tk_same sm1) _ iv), .tup ie .nil, sh0, shaped_nilT, ?_⟩
      rw [eqv_nilT]
      cases hds : ds with
      | nil => exact ⟨false, rfl, iteF (iteF ⟨rfl, u1.less (by omega), but_same sm1⟩)⟩
      | cons d0 dr =>
        refine ⟨true, rfl, iteT ?_⟩
        have pos : 0 < ds.length := by rw [hds]; simp
        refine ⟨.ref c, rfl, c, L, 5, fuel + 4 * (n + 1) + 3, rfl, u1.less (by omega), by decide, by decide, fun d1 H2 d10 d11 u2 b2 => ⟨_, _, rfl, rfl, _, rfl, ?_⟩⟩
        have b02 := (but_same (c := c) (L := L) sm1).trans b2
        by_cases h0 : d1 > 0
        · rw [decide_eq_true h0]
          have tk2 : TK H H2 := b02.tk u
          have ha2 := ha.mono tk2
          refine iteT ⟨.ref c, rfl, .ref a, rfl, a, xs, rfl, .inr ha2.sq, c, L, _, fuel + 4 * (n + 1) + 2, rfl, u2, by omega, by omega, fun dk H3 dk0 dk1 u3 b3 => ?_⟩
          obtain ⟨k', rfl⟩ : ∃ k' : Nat, dk = (k' : Int) := ⟨dk.toNat, by omega⟩
          have kl : k' < ds.length := by omega
          have b03 := b02.trans b3
          have tk3 : TK H H3 := b03.tk u
          have ha3 := ha.mono tk3
          have hx3 : DaAll K (NC c L) H3 xs ds := ImAll.da _ (ImAll.mono tk3 _ hxs)
          refine ⟨.ref a, rfl, .int k', rfl, k', rfl, sl_da ha3 hx3 fun p1 H4 es1 sm4 it4 id4 mem4 => ?_⟩
          have ha4 := ha3.mono (tk_same sm4)
          obtain ⟨x, hx, ix⟩ := hxs.get (List.getElem?_eq_getElem kl)
          have b04 := b03.trans (but_same sm4)
          refine ⟨.ref c, rfl, .ref a, rfl, .int k', rfl, a, xs, _, _, rfl, rfl, ha4.sq, atI_nat hx, c, L, x, _, fuel + 2, rfl, (u3.same sm4).less (by omega), Im.mono (b04.tk u) _ ix, parts _ (List.getElem_mem kl), fun v' d' H5 da5 ob5 u5 b5 => ?_⟩
          have b05 := b04.trans b5
          have fr5 : Fr (NC c L) H4 H5 := fr_but b5 (u3.same sm4)
          refine ⟨by show 1 ≤ sizeLine; decide, fun T1 hT1 => ?_⟩
          have sm6 : Same H5 (upd H5 T1 (.tup [v'])) := same_new hT1
          have it6 : ITup K (upd H5 T1 (.tup [v'])) T1 [v'] := .inl upd_same
          generalize upd H5 T1 (.tup [v']) = G6 at *
          have fr6 := fr5.trans (fr_same sm6)
          have l1 : (cutV xs none (some (k' : Int))).length ≤ k' := cut_hi
          refine cat_da (it4.mono fr6.1) (DaAll.mono fr6 _ id4) it6 (.cons (Da.mono (fr_same sm6) _ da5) .nil) (by show _ + 1 ≤ 1000; omega) fun p7 H7 sm7 it7 id7 => ?_
          have fr7 := fr6.trans (fr_same sm7)
          have ha7 := ha4.mono fr7.1
          have hx7 : DaAll K (NC c L) H7 xs ds := DaAll.mono ((fr_same sm4).trans fr7) _ hx3
          refine ⟨.ref a, rfl, .int k', rfl, _, _, rfl, rfl, _, rfl, ?_⟩
          dsimp only [tNoPart]
          refine sl_da ha7 hx7 fun p8 H8 es8 sm8 it8 id8 mem8 => ?_
          have l2 : (cutV xs (some ((k' : Int) + 1)) none).length ≤ xs.length - (k' + 1) := cut_lo (k := k' + 1)
          have z1 := id4.len
          have z2 := id8.len
          refine cat_da (it7.mono (tk_same sm8)) (DaAll.mono (fr_same sm8) _ id7) it8 id8 (by rw [List.length_append]; show (_ + 1) + _ ≤ 1000; omega) fun p9 H9 sm9 it9 id9 => ?_
          have sm69 := ((sm6.trans sm7).trans sm8).trans sm9
          refine q _ _ H9 (.tup it9 id9) ?_ ((u5.same sm69).less (by omega)) (b05.trans (but_same sm69))
          rw [List.append_assoc]
          refine out_one ?_ (fun y hy => in_pp (parts y (mem4 y hy))) (fun y hy => in_pp (parts y (mem8 y hy))) ob5 nlt
          rw [List.length_append]
          show es1.length + (es8.length + 1) ≤ 6
          omega
        · rw [decide_eq_false h0]
          exact iteF ⟨rfl, u2.less (by omega), b02⟩
    · rintro σ' H' ⟨rfl, u0, b0⟩
      have tk0 : TK H H' := b0.tk u
      have ha0 := ha.mono tk0
      refine ⟨.ref a, rfl, .ref a, _, .type "tuple", _, true, rfl, .ty _, ity ha0, kit_ty (by decide +kernel), true, rfl, iteT ?_⟩
      refine ⟨.ref c, rfl, .ref a, rfl, a, xs, rfl, .inr ha0.sq, _, _, rfl, rfl, c, L, _, fuel + 2, rfl, u0, by omega, by omega, fun dk H1 dk0 dk1 u1 b1 => ?_⟩
      obtain ⟨k', rfl⟩ : ∃ k' : Nat, dk = (k' : Int) := ⟨dk.toNat, by omega⟩
      have ha1 := ha0.mono (b1.tk u0)
      refine ⟨.ref c, rfl, .ref a, rfl, a, xs, rfl, .inr ha1.sq, _, _, rfl, rfl, c, L, _, fuel + 1, rfl, u1, by omega, by omega, fun dj H2 dj0 dj1 u2 b2 => ⟨_, _, rfl, ?_⟩⟩
      obtain ⟨j', rfl⟩ : ∃ j' : Nat, dj = (j' : Int) := ⟨dj.toNat, by omega⟩
      have kl : k' ≤ xs.length := by omega
      have ha2 := ha1.mono (b2.tk u1)
      have tk2 : TK H H2 := ((b0.trans b1).trans b2).tk u
      have hx2 : DaAll K (NC c L) H2 xs ds := ImAll.da _ (ImAll.mono tk2 _ hxs)
      have pm : ∀ y ∈ ds, PP (n + 1) y := fun y hy => in_pp (parts y hy)
      have al : Al K (NC c L) (n + 1) H2 [] := al_nil
      have sm : Same H2 H2 := Same.refl H2
      clear isT
      rename ITup K H2 a xs => ha9
      clear ha0 ha1 ha
      have ha := ha9
      have hx := hx2
      refine ⟨.ref a, rfl, .int k', rfl, k', rfl, ?_⟩
      refine sl_da ha hx fun p1 G1 es1 s1 i1 d1 m1 => ?_
      have ln1 : es1.length ≤ k' := by rw [← d1.len]; exact cut_hi
      replace ha := ha.mono (tk_same s1)
      replace hx := DaAll.mono (fr_same s1) _ hx
      replace al := al.mono (fr_same s1)
      replace sm := sm.trans s1
      refine ⟨.ref a, rfl, .int k', rfl, _, _, rfl, rfl, _, rfl, ?_⟩
      dsimp only [tNoPart]
      refine sl_da ha hx fun p2 G2 es2 s2 i2 d2 m2 => ?_
      have ln2 : es2.length ≤ xs.length - (k' + 1) := by rw [← d2.len]; exact cut_lo (k := k' + 1)
      replace ha := ha.mono (tk_same s2)
      replace hx := DaAll.mono (fr_same s2) _ hx
      replace al := al.mono (fr_same s2)
      replace sm := sm.trans s2
      replace i1 := i1.mono (tk_same s2)
      replace d1 := DaAll.mono (fr_same s2) _ d1
      refine cat_da i1 d1 i2 d2 (by rw [d1.len, d2.len]; (try simp only [List.length_append]); omega) fun p3 G3 s3 i3 d3 => ?_
      replace ha := ha.mono (tk_same s3)
      replace hx := DaAll.mono (fr_same s3) _ hx
      replace al := al.mono (fr_same s3)
      replace sm := sm.trans s3
      have o3 : OutB (n + 1) (.tuple _) := out_all (l := (es1 ++ es2)) (by (try simp only [List.length_append, List.length_cons, List.length_nil]); omega) (fun y hy => by
        rcases List.mem_append.mp hy with hy | hy
        · exact pm y (m1 y hy)
        · exact pm y (m2 y hy))
      replace al := al.add (.tup i3 d3) o3
      refine ⟨.ref a, rfl, .int k', rfl, k', rfl, ?_⟩
      refine sl_da ha hx fun p4 G4 es4 s4 i4 d4 m4 => ?_
      have ln4 : es4.length ≤ k' := by rw [← d4.len]; exact cut_hi
      replace ha := ha.mono (tk_same s4)
      replace hx := DaAll.mono (fr_same s4) _ hx
      replace al := al.mono (fr_same s4)
      replace sm := sm.trans s4
      refine ⟨.ref a, rfl, .int k', rfl, k', rfl, .int k', rfl, _, _, rfl, rfl, _, rfl, ?_⟩
      refine sl_da ha hx fun p5 G5 es5 s5 i5 d5 m5 => ?_
      have ln5 : es5.length ≤ 1 := by rw [← d5.len]; exact cut_mid
      replace ha := ha.mono (tk_same s5)
      replace hx := DaAll.mono (fr_same s5) _ hx
      replace al := al.mono (fr_same s5)
      replace sm := sm.trans s5
      replace i4 := i4.mono (tk_same s5)
      replace d4 := DaAll.mono (fr_same s5) _ d4
      refine cat_da i4 d4 i5 d5 (by rw [d4.len, d5.len]; (try simp only [List.length_append]); omega) fun p6 G6 s6 i6 d6 => ?_
      replace ha := ha.mono (tk_same s6)
      replace hx := DaAll.mono (fr_same s6) _ hx
      replace al := al.mono (fr_same s6)
      replace sm := sm.trans s6
      refine ⟨.ref a, rfl, .int k', rfl, k', rfl, ?_⟩
      dsimp only [tNoPart]
      refine sl_da ha hx fun p7 G7 es7 s7 i7 d7 m7 => ?_
      have ln7 : es7.length ≤ xs.length - k' := by rw [← d7.len]; exact cut_lo
      replace ha := ha.mono (tk_same s7)
      replace hx := DaAll.mono (fr_same s7) _ hx
      replace al := al.mono (fr_same s7)
      replace sm := sm.trans s7
      replace i6 := i6.mono (tk_same s7)
      replace d6 := DaAll.mono (fr_same s7) _ d6
      refine cat_da i6 d6 i7 d7 (by rw [d6.len, d7.len]; (try simp only [List.length_append]); omega) fun p8 G8 s8 i8 d8 => ?_
      replace ha := ha.mono (tk_same s8)
      replace hx := DaAll.mono (fr_same s8) _ hx
      replace al := al.mono (fr_same s8)
      replace sm := sm.trans s8
      have o8 : OutB (n + 1) (.tuple _) := out_all (l := ((es4 ++ es5) ++ es7)) (by (try simp only [List.length_append, List.length_cons, List.length_nil]); omega) (fun y hy => by
        rcases List.mem_append.mp hy with hy | hy
        · rcases List.mem_append.mp hy with hy | hy
          · exact pm y (m4 y hy)
          · exact pm y (m5 y hy)
        · exact pm y (m7 y hy))
      replace al := al.add (.tup i8 d8) o8
      refine ⟨.ref a, rfl, a, xs, rfl, ha.sq, fun pr hpr => ?_⟩
      have sr := same_new (o := .tup xs.reverse) hpr
      have er : (upd G8 pr (.tup xs.reverse)) pr = some (.tup xs.reverse) := upd_same
      generalize upd G8 pr (.tup xs.reverse) = Xr at *
      have ir : ITup K Xr pr xs.reverse := .inl er
      have dr := DaAll.mono (fr_same sr) _ hx.rev
      replace ha := ha.mono (tk_same sr)
      replace hx := DaAll.mono (fr_same sr) _ hx
      replace al := al.mono (fr_same sr)
      replace sm := sm.trans sr
      have orv : OutB (n + 1) (.tuple ds.reverse) := out_all (by rw [List.length_reverse]; omega) (fun y hy => pm y (List.mem_reverse.mp hy))
      replace al := al.add (.tup ir dr) orv
      refine ⟨.ref a, rfl, a, xs, rfl, .inr ha.sq, fun pl hpl => ?_⟩
      have nel := (u2.same sm).ne hpl
      have sl1 := same_new (o := .lst xs) hpl
      have el1 : (upd Xr pl (.lst xs)) pl = some (.lst xs) := upd_same
      generalize upd Xr pl (.lst xs) = Xl1 at *
      have dl := DaAll.mono (fr_same sl1) _ hx
      replace ha := ha.mono (tk_same sl1)
      replace hx := DaAll.mono (fr_same sl1) _ hx
      replace al := al.mono (fr_same sl1)
      replace sm := sm.trans sl1
      replace al := al.add (.lst (S := NC c L) nel el1 dl) (out_non rfl (by simp [smD]))
      refine ⟨.ref a, rfl, ?_⟩
      refine ⟨by show 2 ≤ sizeLine; decide, fun t9 ht9 => ?_⟩
      have s9 := same_new (o := .tup [.int 0, .int 1]) ht9
      have e9 : (upd Xl1 t9 (.tup [.int 0, .int 1])) t9 = some (.tup [.int 0, .int 1]) := upd_same
      generalize upd Xl1 t9 (.tup [.int 0, .int 1]) = X9 at *
      have q9 : Da K (NC c L) X9 (.ref t9) (.tuple [.int 0, .int 1]) := .tup (.inl e9) (.cons (.int 0) (.cons (.int 1) .nil))
      replace ha := ha.mono (tk_same s9)
      replace hx := DaAll.mono (fr_same s9) _ hx
      replace al := al.mono (fr_same s9)
      replace sm := sm.trans s9
      refine ⟨by show 1 ≤ sizeLine; decide, fun t10 ht10 => ?_⟩
      have s10 := same_new (o := .tup [.ref t9]) ht10
      have e10 : (upd X9 t10 (.tup [.ref t9])) t10 = some (.tup [.ref t9]) := upd_same
      generalize upd X9 t10 (.tup [.ref t9]) = X10 at *
      have i10 : ITup K X10 t10 [.ref t9] := .inl e10
      have d10 : DaAll K (NC c L) X10 [.ref t9] [.tuple [.int 0, .int 1]] := .cons (Da.mono (fr_same s10) _ q9) .nil
      replace ha := ha.mono (tk_same s10)
      replace hx := DaAll.mono (fr_same s10) _ hx
      replace al := al.mono (fr_same s10)
      replace sm := sm.trans s10
      refine cat_da ha hx i10 d10 (by show _ + 1 ≤ 1000; omega) fun p11 G11 s11 i11 d11 => ?_
      replace ha := ha.mono (tk_same s11)
      replace hx := DaAll.mono (fr_same s11) _ hx
      replace al := al.mono (fr_same s11)
      replace sm := sm.trans s11
      have o11 : OutB (n + 1) (.tuple _) := out_all (l := (ds ++ [PyData.tuple [.int 0, .int 1]])) (by (try simp only [List.length_append, List.length_cons, List.length_nil]); omega) (fun y hy => by
        rcases List.mem_append.mp hy with hy | hy
        · exact pm y hy
        · rw [List.mem_singleton.mp hy]; exact pp_zero _)
      replace al := al.add (.tup i11 d11) o11
      refine ⟨by show 5 ≤ sizeLine; decide, fun lA hlA => ?_⟩
      have neA := (u2.same sm).ne hlA
      have sA := same_new (o := .lst [.ref p3, .ref p8, .ref pr, .ref pl, .ref p11]) hlA
      have eA : (upd G11 lA (.lst [.ref p3, .ref p8, .ref pr, .ref pl, .ref p11])) lA = some (.lst [.ref p3, .ref p8, .ref pr, .ref pl, .ref p11]) := upd_same
      generalize upd G11 lA (.lst [.ref p3, .ref p8, .ref pr, .ref pl, .ref p11]) = XA at *
      replace ha := ha.mono (tk_same sA)
      replace hx := DaAll.mono (fr_same sA) _ hx
      replace al := al.mono (fr_same sA)
      replace sm := sm.trans sA
      have alA := al
      clear al
      have al : Al K (NC c L) (n + 1) XA [] := al_nil
      have eAk := eA
      refine ⟨.ref lA, rfl, .ref a, rfl, by show 1 ≤ sizeLine; decide, fun t6 ht6 => ?_⟩
      have s_6 := same_new (o := .tup [.ref a]) ht6
      have e_6 : (upd XA t6 (.tup [.ref a])) t6 = some (.tup [.ref a]) := upd_same
      generalize upd XA t6 (.tup [.ref a]) = X_6 at *
      have i_6 : ITup K X_6 t6 [.ref a] := .inl e_6
      have d_6 : DaAll K (NC c L) X_6 [.ref a] [.tuple ds] := .cons (.tup (ha.mono (tk_same s_6)) (DaAll.mono (fr_same s_6) _ hx)) .nil
      replace ha := ha.mono (tk_same s_6)
      replace hx := DaAll.mono (fr_same s_6) _ hx
      replace al := al.mono (fr_same s_6)
      replace sm := sm.trans s_6
      replace alA := alA.mono (fr_same s_6)
      replace eAk := s_6 _ _ eAk
      have o_6 : OutB (n + 1) (.tuple [.tuple ds]) := out_all (by simp) (fun y hy => by rw [List.mem_singleton.mp hy]; exact in_self ib)
      replace al := al.add (.tup i_6 d_6) o_6
      refine ⟨.ref a, rfl, .int k', rfl, k', rfl, ?_⟩
      refine sl_da ha hx fun p12 G12 es12 s12 i12 d12 m12 => ?_
      have ln12 : es12.length ≤ k' := by rw [← d12.len]; exact cut_hi
      replace ha := ha.mono (tk_same s12)
      replace hx := DaAll.mono (fr_same s12) _ hx
      replace al := al.mono (fr_same s12)
      replace sm := sm.trans s12
      replace alA := alA.mono (fr_same s12)
      replace eAk := s12 _ _ eAk
      refine ⟨.ref a, rfl, .int j', rfl, j', rfl, .int j', rfl, _, _, rfl, rfl, _, rfl, ?_⟩
      refine sl_da ha hx fun p13 G13 es13 s13 i13 d13 m13 => ?_
      have ln13 : es13.length ≤ 1 := by rw [← d13.len]; exact cut_mid
      replace ha := ha.mono (tk_same s13)
      replace hx := DaAll.mono (fr_same s13) _ hx
      replace al := al.mono (fr_same s13)
      replace sm := sm.trans s13
      replace alA := alA.mono (fr_same s13)
      replace eAk := s13 _ _ eAk
      replace i12 := i12.mono (tk_same s13)
      replace d12 := DaAll.mono (fr_same s13) _ d12
      refine cat_da i12 d12 i13 d13 (by rw [d12.len, d13.len]; (try simp only [List.length_append]); omega) fun p14 G14 s14 i14 d14 => ?_
      replace ha := ha.mono (tk_same s14)
      replace hx := DaAll.mono (fr_same s14) _ hx
      replace al := al.mono (fr_same s14)
      replace sm := sm.trans s14
      replace alA := alA.mono (fr_same s14)
      replace eAk := s14 _ _ eAk
      refine ⟨.ref a, rfl, .int k', rfl, _, _, rfl, rfl, _, rfl, ?_⟩
      dsimp only [tNoPart]
      refine sl_da ha hx fun p15 G15 es15 s15 i15 d15 m15 => ?_
      have ln15 : es15.length ≤ xs.length - (k' + 1) := by rw [← d15.len]; exact cut_lo (k := k' + 1)
      replace ha := ha.mono (tk_same s15)
      replace hx := DaAll.mono (fr_same s15) _ hx
      replace al := al.mono (fr_same s15)
      replace sm := sm.trans s15
      replace alA := alA.mono (fr_same s15)
      replace eAk := s15 _ _ eAk
      replace i14 := i14.mono (tk_same s15)
      replace d14 := DaAll.mono (fr_same s15) _ d14
      refine cat_da i14 d14 i15 d15 (by rw [d14.len, d15.len]; (try simp only [List.length_append]); omega) fun p16 G16 s16 i16 d16 => ?_
      replace ha := ha.mono (tk_same s16)
      replace hx := DaAll.mono (fr_same s16) _ hx
      replace al := al.mono (fr_same s16)
      replace sm := sm.trans s16
      replace alA := alA.mono (fr_same s16)
      replace eAk := s16 _ _ eAk
      have o16 : OutB (n + 1) (.tuple _) := out_all (l := ((es12 ++ es13) ++ es15)) (by (try simp only [List.length_append, List.length_cons, List.length_nil]); omega) (fun y hy => by
        rcases List.mem_append.mp hy with hy | hy
        · rcases List.mem_append.mp hy with hy | hy
          · exact pm y (m12 y hy)
          · exact pm y (m13 y hy)
        · exact pm y (m15 y hy))
      replace al := al.add (.tup i16 d16) o16
      replace al := al.add .non (out_non rfl (by simp [smD]))
      refine ⟨by show 0 ≤ sizeLine; decide, fun t9 ht9 => ?_⟩
      have s_9 := same_new (o := .tup []) ht9
      have e_9 : (upd G16 t9 (.tup [])) t9 = some (.tup []) := upd_same
      generalize upd G16 t9 (.tup []) = X_9 at *
      have i_9 : ITup K X_9 t9 [] := .inl e_9
      replace ha := ha.mono (tk_same s_9)
      replace hx := DaAll.mono (fr_same s_9) _ hx
      replace al := al.mono (fr_same s_9)
      replace sm := sm.trans s_9
      replace alA := alA.mono (fr_same s_9)
      replace eAk := s_9 _ _ eAk
      replace al := al.add (.tup i_9 .nil) (out_all (l := []) (by simp) (fun y hy => by simp at hy))
      refine ⟨by show 0 ≤ sizeLine; decide, fun t10 ht10 => ?_⟩
      have ne10 := (u2.same sm).ne ht10
      have s_10 := same_new (o := .lst []) ht10
      have e_10 : (upd X_9 t10 (.lst [])) t10 = some (.lst []) := upd_same
      generalize upd X_9 t10 (.lst []) = X_10 at *
      replace ha := ha.mono (tk_same s_10)
      replace hx := DaAll.mono (fr_same s_10) _ hx
      replace al := al.mono (fr_same s_10)
      replace sm := sm.trans s_10
      replace alA := alA.mono (fr_same s_10)
      replace eAk := s_10 _ _ eAk
      replace al := al.add (.lst (S := NC c L) ne10 e_10 .nil) (out_non rfl (by simp [smD]))
      replace al := al.add (.str ("" : Str)) (out_non rfl (by simp [smD]))
      refine ⟨.ref a, rfl, ?_⟩
      refine ⟨by show 1 ≤ sizeLine; decide, fun t17 ht17 => ?_⟩
      have s17 := same_new (o := .tup [.int 0]) ht17
      have e17 : (upd X_10 t17 (.tup [.int 0])) t17 = some (.tup [.int 0]) := upd_same
      generalize upd X_10 t17 (.tup [.int 0]) = X17 at *
      have i17 : ITup K X17 t17 [.int 0] := .inl e17
      have d17 : DaAll K (NC c L) X17 [.int 0] [.int 0] := .cons (.int 0) .nil
      replace ha := ha.mono (tk_same s17)
      replace hx := DaAll.mono (fr_same s17) _ hx
      replace al := al.mono (fr_same s17)
      replace sm := sm.trans s17
      replace alA := alA.mono (fr_same s17)
      replace eAk := s17 _ _ eAk
      refine cat_da ha hx i17 d17 (by show _ + 1 ≤ 1000; omega) fun p18 G18 s18 i18 d18 => ?_
      replace ha := ha.mono (tk_same s18)
      replace hx := DaAll.mono (fr_same s18) _ hx
      replace al := al.mono (fr_same s18)
      replace sm := sm.trans s18
      replace alA := alA.mono (fr_same s18)
      replace eAk := s18 _ _ eAk
      have o18 : OutB (n + 1) (.tuple _) := out_all (l := (ds ++ [PyData.int 0])) (by (try simp only [List.length_append, List.length_cons, List.length_nil]); omega) (fun y hy => by
        rcases List.mem_append.mp hy with hy | hy
        · exact pm y hy
        · rw [List.mem_singleton.mp hy]; exact pp_int0 _)
      replace al := al.add (.tup i18 d18) o18
      refine ⟨.ref a, rfl, by show 0 ≤ sizeLine; decide, fun t13 ht13 => ?_⟩
      have s_13 := same_new (o := .tup []) ht13
      have e_13 : (upd G18 t13 (.tup [])) t13 = some (.tup []) := upd_same
      generalize upd G18 t13 (.tup []) = X_13 at *
      have q13 : Da K (NC c L) X_13 (.ref t13) (.tuple []) := .tup (.inl e_13) .nil
      replace ha := ha.mono (tk_same s_13)
      replace hx := DaAll.mono (fr_same s_13) _ hx
      replace al := al.mono (fr_same s_13)
      replace sm := sm.trans s_13
      replace alA := alA.mono (fr_same s_13)
      replace eAk := s_13 _ _ eAk
      refine ⟨by show 1 ≤ sizeLine; decide, fun t19 ht19 => ?_⟩
      have s19 := same_new (o := .tup [.ref t13]) ht19
      have e19 : (upd X_13 t19 (.tup [.ref t13])) t19 = some (.tup [.ref t13]) := upd_same
      generalize upd X_13 t19 (.tup [.ref t13]) = X19 at *
      have i19 : ITup K X19 t19 [.ref t13] := .inl e19
      have d19 : DaAll K (NC c L) X19 [.ref t13] [.tuple []] := .cons (Da.mono (fr_same s19) _ q13) .nil
      replace ha := ha.mono (tk_same s19)
      replace hx := DaAll.mono (fr_same s19) _ hx
      replace al := al.mono (fr_same s19)
      replace sm := sm.trans s19
      replace alA := alA.mono (fr_same s19)
      replace eAk := s19 _ _ eAk
      refine cat_da ha hx i19 d19 (by show _ + 1 ≤ 1000; omega) fun p20 G20 s20 i20 d20 => ?_
      replace ha := ha.mono (tk_same s20)
      replace hx := DaAll.mono (fr_same s20) _ hx
      replace al := al.mono (fr_same s20)
      replace sm := sm.trans s20
      replace alA := alA.mono (fr_same s20)
      replace eAk := s20 _ _ eAk
      have o20 : OutB (n + 1) (.tuple _) := out_all (l := (ds ++ [PyData.tuple []])) (by (try simp only [List.length_append, List.length_cons, List.length_nil]); omega) (fun y hy => by
        rcases List.mem_append.mp hy with hy | hy
        · exact pm y hy
        · rw [List.mem_singleton.mp hy]; exact pp_nil _)
      replace al := al.add (.tup i20 d20) o20
      refine ⟨by show 8 ≤ sizeLine; decide, fun lB hlB => ?_⟩
      have sB := same_new (o := .lst [.ref t6, .ref p16, .non, .ref t9, .ref t10, .str "", .ref p18, .ref p20]) hlB
      have eB : (upd G20 lB (.lst [.ref t6, .ref p16, .non, .ref t9, .ref t10, .str "", .ref p18, .ref p20])) lB = some (.lst [.ref t6, .ref p16, .non, .ref t9, .ref t10, .str "", .ref p18, .ref p20]) := upd_same
      generalize upd G20 lB (.lst [.ref t6, .ref p16, .non, .ref t9, .ref t10, .str "", .ref p18, .ref p20]) = XB at *
      replace ha := ha.mono (tk_same sB)
      replace hx := DaAll.mono (fr_same sB) _ hx
      replace al := al.mono (fr_same sB)
      replace sm := sm.trans sB
      replace alA := alA.mono (fr_same sB)
      replace eAk := sB _ _ eAk
      refine ⟨lA, lB, _, _, rfl, rfl, eAk, eB, by show 13 ≤ sizeLine; decide, fun lC hlC => ?_⟩
      have neC := (u2.same sm).ne hlC
      have alC := alA.app al
      have alC2 : Al K (NC c L) (n + 1) XB ([.ref p3, .ref p8, .ref pr, .ref pl, .ref p11] ++ [.ref t6, .ref p16, .non, .ref t9, .ref t10, .str "", .ref p18, .ref p20]) := alC
      have sC := same_new (o := .lst ([.ref p3, .ref p8, .ref pr, .ref pl, .ref p11] ++ [.ref t6, .ref p16, .non, .ref t9, .ref t10, .str "", .ref p18, .ref p20])) hlC
      have eC : (upd XB lC (.lst ([.ref p3, .ref p8, .ref pr, .ref pl, .ref p11] ++ [.ref t6, .ref p16, .non, .ref t9, .ref t10, .str "", .ref p18, .ref p20]))) lC = some (.lst ([.ref p3, .ref p8, .ref pr, .ref pl, .ref p11] ++ [.ref t6, .ref p16, .non, .ref t9, .ref t10, .str "", .ref p18, .ref p20])) := upd_same
      generalize upd XB lC (.lst ([.ref p3, .ref p8, .ref pr, .ref pl, .ref p11] ++ [.ref t6, .ref p16, .non, .ref t9, .ref t10, .str "", .ref p18, .ref p20])) = XC at *
      replace ha := ha.mono (tk_same sC)
      replace hx := DaAll.mono (fr_same sC) _ hx
      replace al := al.mono (fr_same sC)
      replace sm := sm.trans sC
      replace alA := alA.mono (fr_same sC)
      replace eAk := sC _ _ eAk
      replace alC2 := alC2.mono (fr_same sC)
      refine ⟨.ref lC, rfl, .ref c, rfl, c, L, 13, fuel, rfl, (u2.same sm).less (by omega), by decide, by decide, fun dz H9 dz0 dz1 u9 b9 => ?_⟩
      have fr9 : Fr (NC c L) XC H9 := fr_but b9 (u2.same sm)
      have eC9 := b9 _ _ neC.1 neC.2 eC
      obtain ⟨z', rfl⟩ : ∃ z' : Nat, dz = (z' : Int) := ⟨dz.toNat, by omega⟩
      have zl : z' < 13 := by omega
      have hz := List.getElem?_eq_getElem (l := (([V.ref p3, V.ref p8, V.ref pr, V.ref pl, V.ref p11] ++ [V.ref t6, V.ref p16, V.non, V.ref t9, V.ref t10, V.str ("" : Str), V.ref p18, V.ref p20]) : List V)) (i := z') zl
      obtain ⟨d', da', ob'⟩ := (alC2.mono fr9) _ (List.getElem_mem (l := (([V.ref p3, V.ref p8, V.ref pr, V.ref pl, V.ref p11] ++ [V.ref t6, V.ref p16, V.non, V.ref t9, V.ref t10, V.str ("" : Str), V.ref p18, V.ref p20]) : List V)) (n := z') zl)
      exact ⟨lC, _, _, _, rfl, rfl, .of eC9, atI_nat hz, q _ d' H9 da' ob' u9 ((((b0.trans b1).trans b2).trans (but_same sm)).trans b9)⟩
end
end K42

set_option Elab.async false
set_option linter.all false
set_option maxRecDepth 100000
set_option exponentiation.threshold 20000
namespace K42
open PySem PySem.Spec PyProof.Rows L2 Ly Mt El
section
variable {P : Program} {w : World} {K : PySem.W.Frag} {mg : Str → Option Value} {base : Heap} {C : Addr}
abbrev s__law_odd_ratio : Stmt := topS 51
theorem sc__law_odd_ratio : FnScope ["cup", "some"] ["cup"] (defScope s__law_odd_ratio) := ⟨rfl, rfl, rfl, by decide +kernel, rfl, by decide +kernel, by decide +kernel⟩
def sp_odd (K : PySem.W.Frag) : Sp := fun vs H Q _ => ∃ (c L : Addr) (fuel : Nat), vs = [.ref c] ∧ Cup H c L (fuel + 1) ∧ ∀ v' d' H', Da K (NC c L) H' v' d' → smD d' → Cup H' c L fuel → But c L H H' → Q v' H'
set_option maxHeartbeats 1000000 in
theorem ok__law_odd_ratio {f : Addr} {fd : FuncData} {k : Nat} (F : Fun K "_law_odd_ratio" "_law_odd_ratio" s__law_odd_ratio f fd) (T : Tx K mg C){ki : Nat} (D__law_sip : Def P w K mg base ki "_law_sip" s__law_sip ["cup", "many"] sp_sip) (hk : ki ≤ k) : FnOk P w K mg base CX0 (k + 1) f fd ["cup"] (sp_odd K) := by
  have nd := sc__law_odd_ratio.nd
  refine F.ok sc__law_odd_ratio (fun vs H Q E h => ?_) (fun cdv A outer s H vs Q E hr h => ?_)
  · obtain ⟨_, _, _, rfl, _⟩ := h
    rfl
  · obtain ⟨c, L, fuel, rfl, u, q⟩ := h
    refine ⟨_, (pss_cons (ps_set (i := 1) nd rfl (.inl rfl) (pe_lst (pa_cons (pe_tup (pa_cons pe_int (pa_cons pe_int pa_nil))) (pa_cons (pe_tup (pa_cons pe_int (pa_cons pe_int pa_nil))) (pa_cons (pe_tup (pa_cons pe_int (pa_cons pe_int pa_nil))) (pa_cons (pe_tup (pa_cons pe_int (pa_cons pe_int pa_nil))) (pa_cons (pe_tup (pa_cons pe_int (pa_cons (pe_un un_neg pe_int) pa_nil))) (pa_cons (pe_tup (pa_cons (pe_un un_neg pe_int) (pa_cons pe_int pa_nil))) (pa_cons (pe_tup (pa_cons pe_int (pa_cons (pe_un un_neg pe_int) pa_nil))) (pa_cons (pe_tup (pa_cons pe_bl (pa_cons pe_int pa_nil))) (pa_cons (pe_tup (pa_cons pe_int (pa_cons pe_bl pa_nil))) (pa_cons (pe_tup (pa_cons pe_int (pa_cons pe_int (pa_cons pe_int pa_nil)))) (pa_cons (pe_tup (pa_cons pe_int pa_nil)) (pa_cons (pe_lst (pa_cons pe_int (pa_cons pe_int pa_nil))) pa_nil))))))))))))))
      (pss_cons (ps_set (i := 1) nd rfl (.inl rfl) (pe_op op_cat (pv 1) (pe_lst (pa_cons (pe_tup (pa_cons pe_int (pa_cons pe_int pa_nil))) (pa_cons (pe_tup (pa_cons (pe_op op_pow pe_int pe_int) (pa_cons (pe_op op_pow pe_int pe_int) pa_nil))) (pa_cons (pe_tup (pa_cons (pe_un un_neg pe_int) (pa_cons pe_int pa_nil))) (pa_cons (pe_tup (pa_cons pe_int (pa_cons pe_int pa_nil))) (pa_cons (pe_tup (pa_cons (pe_un un_neg (pe_op op_pow pe_int pe_int)) (pa_cons pe_int pa_nil))) (pa_cons (pe_tup (pa_cons pe_int (pa_cons pe_int pa_nil))) (pa_cons (pe_tup (pa_cons pe_str (pa_cons pe_int pa_nil))) (pa_cons (pe_tup (pa_cons pe_int (pa_cons pe_non pa_nil))) (pa_cons pe_int (pa_cons pe_str pa_nil)))))))))))))
      (pss_one (ps_ret (pe_ix (kix_list K) (pv 1) (pe_def D__law_sip (hr.mono (by omega)) rfl (pa_cons (pv 0) (pa_cons pe_int pa_nil))) (fun _ _ => rfl)))))), ?_⟩
    have sm : Same H H := Same.refl H
    have alA : Al K (NC c L) 1 H [] := al_nil
    refine ⟨by show 2 ≤ sizeLine; decide, fun t1 ht1 => ?_⟩
    have s1 := same_new (o := .tup [V.int 2, V.int 2]) ht1
    have e1 : (upd H t1 (.tup [V.int 2, V.int 2])) t1 = some (.tup [V.int 2, V.int 2]) := upd_same
    generalize upd H t1 (.tup [V.int 2, V.int 2]) = G1 at *
    replace sm := sm.trans s1
    replace alA := alA.mono (fr_same s1)
    replace alA := alA.add (.tup (.inl e1) (.cons (.int 2) (.cons (.int 2) (.nil)))) (show OutB 1 (.tuple _) from by simp [OutB, smD, smAll])
    refine ⟨by show 2 ≤ sizeLine; decide, fun t2 ht2 => ?_⟩
    have s2 := same_new (o := .tup [V.int 0, V.int 2]) ht2
    have e2 : (upd G1 t2 (.tup [V.int 0, V.int 2])) t2 = some (.tup [V.int 0, V.int 2]) := upd_same
    generalize upd G1 t2 (.tup [V.int 0, V.int 2]) = G2 at *
    replace sm := sm.trans s2
    replace alA := alA.mono (fr_same s2)
    replace alA := alA.add (.tup (.inl e2) (.cons (.int 0) (.cons (.int 2) (.nil)))) (show OutB 1 (.tuple _) from by simp [OutB, smD, smAll])
    refine ⟨by show 2 ≤ sizeLine; decide, fun t3 ht3 => ?_⟩
    have s3 := same_new (o := .tup [V.int 1, V.int 0]) ht3
    have e3 : (upd G2 t3 (.tup [V.int 1, V.int 0])) t3 = some (.tup [V.int 1, V.int 0]) := upd_same
    generalize upd G2 t3 (.tup [V.int 1, V.int 0]) = G3 at *
    replace sm := sm.trans s3
    replace alA := alA.mono (fr_same s3)
    replace alA := alA.add (.tup (.inl e3) (.cons (.int 1) (.cons (.int 0) (.nil)))) (show OutB 1 (.tuple _) from by simp [OutB, smD, smAll])
    refine ⟨by show 2 ≤ sizeLine; decide, fun t4 ht4 => ?_⟩
    have s4 := same_new (o := .tup [V.int 0, V.int 0]) ht4
    have e4 : (upd G3 t4 (.tup [V.int 0, V.int 0])) t4 = some (.tup [V.int 0, V.int 0]) := upd_same
    generalize upd G3 t4 (.tup [V.int 0, V.int 0]) = G4 at *
    replace sm := sm.trans s4
    replace alA := alA.mono (fr_same s4)
    replace alA := alA.add (.tup (.inl e4) (.cons (.int 0) (.cons (.int 0) (.nil)))) (show OutB 1 (.tuple _) from by simp [OutB, smD, smAll])
    refine ⟨_, rfl, by show 2 ≤ sizeLine; decide, fun t5 ht5 => ?_⟩
    have s5 := same_new (o := .tup [V.int 1, V.int (-1)]) ht5
    have e5 : (upd G4 t5 (.tup [V.int 1, V.int (-1)])) t5 = some (.tup [V.int 1, V.int (-1)]) := upd_same
    generalize upd G4 t5 (.tup [V.int 1, V.int (-1)]) = G5 at *
    replace sm := sm.trans s5
    replace alA := alA.mono (fr_same s5)
    replace alA := alA.add (.tup (.inl e5) (.cons (.int 1) (.cons (.int (-1)) (.nil)))) (show OutB 1 (.tuple _) from by simp [OutB, smD, smAll])
    refine ⟨_, rfl, by show 2 ≤ sizeLine; decide, fun t6 ht6 => ?_⟩
    have s6 := same_new (o := .tup [V.int (-2), V.int 4]) ht6
    have e6 : (upd G5 t6 (.tup [V.int (-2), V.int 4])) t6 = some (.tup [V.int (-2), V.int 4]) := upd_same
    generalize upd G5 t6 (.tup [V.int (-2), V.int 4]) = G6 at *
    replace sm := sm.trans s6
    replace alA := alA.mono (fr_same s6)
    replace alA := alA.add (.tup (.inl e6) (.cons (.int (-2)) (.cons (.int 4) (.nil)))) (show OutB 1 (.tuple _) from by simp [OutB, smD, smAll])
    refine ⟨_, rfl, by show 2 ≤ sizeLine; decide, fun t7 ht7 => ?_⟩
    have s7 := same_new (o := .tup [V.int 3, V.int (-2)]) ht7
    have e7 : (upd G6 t7 (.tup [V.int 3, V.int (-2)])) t7 = some (.tup [V.int 3, V.int (-2)]) := upd_same
    generalize upd G6 t7 (.tup [V.int 3, V.int (-2)]) = G7 at *
    replace sm := sm.trans s7
    replace alA := alA.mono (fr_same s7)
    replace alA := alA.add (.tup (.inl e7) (.cons (.int 3) (.cons (.int (-2)) (.nil)))) (show OutB 1 (.tuple _) from by simp [OutB, smD, smAll])
    refine ⟨by show 2 ≤ sizeLine; decide, fun t8 ht8 => ?_⟩
    have s8 := same_new (o := .tup [V.bl true, V.int 1]) ht8
    have e8 : (upd G7 t8 (.tup [V.bl true, V.int 1])) t8 = some (.tup [V.bl true, V.int 1]) := upd_same
    generalize upd G7 t8 (.tup [V.bl true, V.int 1]) = G8 at *
    replace sm := sm.trans s8
    replace alA := alA.mono (fr_same s8)
    replace alA := alA.add (.tup (.inl e8) (.cons (.bl true) (.cons (.int 1) (.nil)))) (show OutB 1 (.tuple _) from by simp [OutB, smD, smAll])
    refine ⟨by show 2 ≤ sizeLine; decide, fun t9 ht9 => ?_⟩
    have s9 := same_new (o := .tup [V.int 1, V.bl true]) ht9
    have e9 : (upd G8 t9 (.tup [V.int 1, V.bl true])) t9 = some (.tup [V.int 1, V.bl true]) := upd_same
    generalize upd G8 t9 (.tup [V.int 1, V.bl true]) = G9 at *
    replace sm := sm.trans s9
    replace alA := alA.mono (fr_same s9)
    replace alA := alA.add (.tup (.inl e9) (.cons (.int 1) (.cons (.bl true) (.nil)))) (show OutB 1 (.tuple _) from by simp [OutB, smD, smAll])
    refine ⟨by show 3 ≤ sizeLine; decide, fun t10 ht10 => ?_⟩
    have s10 := same_new (o := .tup [V.int 1, V.int 1, V.int 1]) ht10
    have e10 : (upd G9 t10 (.tup [V.int 1, V.int 1, V.int 1])) t10 = some (.tup [V.int 1, V.int 1, V.int 1]) := upd_same
    generalize upd G9 t10 (.tup [V.int 1, V.int 1, V.int 1]) = G10 at *
    replace sm := sm.trans s10
    replace alA := alA.mono (fr_same s10)
    replace alA := alA.add (.tup (.inl e10) (.cons (.int 1) (.cons (.int 1) (.cons (.int 1) (.nil))))) (show OutB 1 (.tuple _) from by simp [OutB, smD, smAll])
    refine ⟨by show 1 ≤ sizeLine; decide, fun t11 ht11 => ?_⟩
    have s11 := same_new (o := .tup [V.int 1]) ht11
    have e11 : (upd G10 t11 (.tup [V.int 1])) t11 = some (.tup [V.int 1]) := upd_same
    generalize upd G10 t11 (.tup [V.int 1]) = G11 at *
    replace sm := sm.trans s11
    replace alA := alA.mono (fr_same s11)
    replace alA := alA.add (.tup (.inl e11) (.cons (.int 1) (.nil))) (show OutB 1 (.tuple _) from by simp [OutB, smD, smAll])
    refine ⟨by show 2 ≤ sizeLine; decide, fun t12 ht12 => ?_⟩
    have ne12 := (u.same sm).ne ht12
    have s12 := same_new (o := .lst [V.int 1, V.int 1]) ht12
    have e12 : (upd G11 t12 (.lst [V.int 1, V.int 1])) t12 = some (.lst [V.int 1, V.int 1]) := upd_same
    generalize upd G11 t12 (.lst [V.int 1, V.int 1]) = G12 at *
    replace sm := sm.trans s12
    replace alA := alA.mono (fr_same s12)
    replace alA := alA.add (.lst (S := NC c L) ne12 e12 (.cons (.int 1) (.cons (.int 1) (.nil)))) (out_non rfl (by simp [smD]))
    refine ⟨by show 12 ≤ sizeLine; decide, fun lA hlA => ?_⟩
    have sA := same_new (o := .lst [V.ref t1, V.ref t2, V.ref t3, V.ref t4, V.ref t5, V.ref t6, V.ref t7, V.ref t8, V.ref t9, V.ref t10, V.ref t11, V.ref t12]) hlA
    have eA : (upd G12 lA (.lst [V.ref t1, V.ref t2, V.ref t3, V.ref t4, V.ref t5, V.ref t6, V.ref t7, V.ref t8, V.ref t9, V.ref t10, V.ref t11, V.ref t12])) lA = some (.lst [V.ref t1, V.ref t2, V.ref t3, V.ref t4, V.ref t5, V.ref t6, V.ref t7, V.ref t8, V.ref t9, V.ref t10, V.ref t11, V.ref t12]) := upd_same
    generalize upd G12 lA (.lst [V.ref t1, V.ref t2, V.ref t3, V.ref t4, V.ref t5, V.ref t6, V.ref t7, V.ref t8, V.ref t9, V.ref t10, V.ref t11, V.ref t12]) = XA at *
    replace sm := sm.trans sA
    replace alA := alA.mono (fr_same sA)
    refine ⟨.ref lA, rfl, ?_⟩
    have alB : Al K (NC c L) 1 XA [] := al_nil
    refine ⟨by show 2 ≤ sizeLine; decide, fun t13 ht13 => ?_⟩
    have s13 := same_new (o := .tup [V.int 6, V.int 4]) ht13
    have e13 : (upd XA t13 (.tup [V.int 6, V.int 4])) t13 = some (.tup [V.int 6, V.int 4]) := upd_same
    generalize upd XA t13 (.tup [V.int 6, V.int 4]) = G13 at *
    replace sm := sm.trans s13
    replace alA := alA.mono (fr_same s13)
    replace alB := alB.mono (fr_same s13)
    replace eA := s13 _ _ eA
    replace alB := alB.add (.tup (.inl e13) (.cons (.int 6) (.cons (.int 4) (.nil)))) (show OutB 1 (.tuple _) from by simp [OutB, smD, smAll])
    refine ⟨_, _, rfl, rfl, ⟨by decide, by decide, by decide⟩, _, _, rfl, rfl, ⟨by decide, by decide, by decide⟩, by show 2 ≤ sizeLine; decide, fun t14 ht14 => ?_⟩
    have s14 := same_new (o := .tup [V.int ((10 : Int) ^ (30 : Int).toNat), V.int ((10 : Int) ^ (29 : Int).toNat)]) ht14
    have e14 : (upd G13 t14 (.tup [V.int ((10 : Int) ^ (30 : Int).toNat), V.int ((10 : Int) ^ (29 : Int).toNat)])) t14 = some (.tup [V.int ((10 : Int) ^ (30 : Int).toNat), V.int ((10 : Int) ^ (29 : Int).toNat)]) := upd_same
    generalize upd G13 t14 (.tup [V.int ((10 : Int) ^ (30 : Int).toNat), V.int ((10 : Int) ^ (29 : Int).toNat)]) = G14 at *
    replace sm := sm.trans s14
    replace alA := alA.mono (fr_same s14)
    replace alB := alB.mono (fr_same s14)
    replace eA := s14 _ _ eA
    replace alB := alB.add (.tup (.inl e14) (.cons (.int ((10 : Int) ^ (30 : Int).toNat)) (.cons (.int ((10 : Int) ^ (29 : Int).toNat)) (.nil)))) (show OutB 1 (.tuple _) from by simp [OutB, smD, smAll])
    refine ⟨_, rfl, by show 2 ≤ sizeLine; decide, fun t15 ht15 => ?_⟩
    have s15 := same_new (o := .tup [V.int (-3), V.int 2]) ht15
    have e15 : (upd G14 t15 (.tup [V.int (-3), V.int 2])) t15 = some (.tup [V.int (-3), V.int 2]) := upd_same
    generalize upd G14 t15 (.tup [V.int (-3), V.int 2]) = G15 at *
    replace sm := sm.trans s15
    replace alA := alA.mono (fr_same s15)
    replace alB := alB.mono (fr_same s15)
    replace eA := s15 _ _ eA
    replace alB := alB.add (.tup (.inl e15) (.cons (.int (-3)) (.cons (.int 2) (.nil)))) (show OutB 1 (.tuple _) from by simp [OutB, smD, smAll])
    refine ⟨by show 2 ≤ sizeLine; decide, fun t16 ht16 => ?_⟩
    have s16 := same_new (o := .tup [V.int 0, V.int 1]) ht16
    have e16 : (upd G15 t16 (.tup [V.int 0, V.int 1])) t16 = some (.tup [V.int 0, V.int 1]) := upd_same
    generalize upd G15 t16 (.tup [V.int 0, V.int 1]) = G16 at *
    replace sm := sm.trans s16
    replace alA := alA.mono (fr_same s16)
    replace alB := alB.mono (fr_same s16)
    replace eA := s16 _ _ eA
    replace alB := alB.add (.tup (.inl e16) (.cons (.int 0) (.cons (.int 1) (.nil)))) (show OutB 1 (.tuple _) from by simp [OutB, smD, smAll])
    refine ⟨_, _, rfl, rfl, ⟨by decide, by decide, by decide⟩, _, rfl, by show 2 ≤ sizeLine; decide, fun t17 ht17 => ?_⟩
    have s17 := same_new (o := .tup [V.int (-((10 : Int) ^ (30 : Int).toNat)), V.int 7]) ht17
    have e17 : (upd G16 t17 (.tup [V.int (-((10 : Int) ^ (30 : Int).toNat)), V.int 7])) t17 = some (.tup [V.int (-((10 : Int) ^ (30 : Int).toNat)), V.int 7]) := upd_same
    generalize upd G16 t17 (.tup [V.int (-((10 : Int) ^ (30 : Int).toNat)), V.int 7]) = G17 at *
    replace sm := sm.trans s17
    replace alA := alA.mono (fr_same s17)
    replace alB := alB.mono (fr_same s17)
    replace eA := s17 _ _ eA
    replace alB := alB.add (.tup (.inl e17) (.cons (.int (-((10 : Int) ^ (30 : Int).toNat))) (.cons (.int 7) (.nil)))) (show OutB 1 (.tuple _) from by simp [OutB, smD, smAll])
    refine ⟨by show 2 ≤ sizeLine; decide, fun t18 ht18 => ?_⟩
    have s18 := same_new (o := .tup [V.int 9, V.int 8]) ht18
    have e18 : (upd G17 t18 (.tup [V.int 9, V.int 8])) t18 = some (.tup [V.int 9, V.int 8]) := upd_same
    generalize upd G17 t18 (.tup [V.int 9, V.int 8]) = G18 at *
    replace sm := sm.trans s18
    replace alA := alA.mono (fr_same s18)
    replace alB := alB.mono (fr_same s18)
    replace eA := s18 _ _ eA
    replace alB := alB.add (.tup (.inl e18) (.cons (.int 9) (.cons (.int 8) (.nil)))) (show OutB 1 (.tuple _) from by simp [OutB, smD, smAll])
    refine ⟨by show 2 ≤ sizeLine; decide, fun t19 ht19 => ?_⟩
    have s19 := same_new (o := .tup [V.str ("1" : Str), V.int 1]) ht19
    have e19 : (upd G18 t19 (.tup [V.str ("1" : Str), V.int 1])) t19 = some (.tup [V.str ("1" : Str), V.int 1]) := upd_same
    generalize upd G18 t19 (.tup [V.str ("1" : Str), V.int 1]) = G19 at *
    replace sm := sm.trans s19
    replace alA := alA.mono (fr_same s19)
    replace alB := alB.mono (fr_same s19)
    replace eA := s19 _ _ eA
    replace alB := alB.add (.tup (.inl e19) (.cons (.str ("1" : Str)) (.cons (.int 1) (.nil)))) (show OutB 1 (.tuple _) from by simp [OutB, smD, smAll])
    refine ⟨by show 2 ≤ sizeLine; decide, fun t20 ht20 => ?_⟩
    have s20 := same_new (o := .tup [V.int 1, V.non]) ht20
    have e20 : (upd G19 t20 (.tup [V.int 1, V.non])) t20 = some (.tup [V.int 1, V.non]) := upd_same
    generalize upd G19 t20 (.tup [V.int 1, V.non]) = G20 at *
    replace sm := sm.trans s20
    replace alA := alA.mono (fr_same s20)
    replace alB := alB.mono (fr_same s20)
    replace eA := s20 _ _ eA
    replace alB := alB.add (.tup (.inl e20) (.cons (.int 1) (.cons .non (.nil)))) (show OutB 1 (.tuple _) from by simp [OutB, smD, smAll])
    replace alB := alB.add (.int 1) (show OutB 1 (.int 1) from smD_int.mpr (by decide))
    replace alB := alB.add (.str ("11" : Str)) (out_non rfl (by simp [smD]))
    refine ⟨by show 10 ≤ sizeLine; decide, fun lB hlB => ?_⟩
    have sB := same_new (o := .lst [V.ref t13, V.ref t14, V.ref t15, V.ref t16, V.ref t17, V.ref t18, V.ref t19, V.ref t20, V.int 1, V.str ("11" : Str)]) hlB
    have eB : (upd G20 lB (.lst [V.ref t13, V.ref t14, V.ref t15, V.ref t16, V.ref t17, V.ref t18, V.ref t19, V.ref t20, V.int 1, V.str ("11" : Str)])) lB = some (.lst [V.ref t13, V.ref t14, V.ref t15, V.ref t16, V.ref t17, V.ref t18, V.ref t19, V.ref t20, V.int 1, V.str ("11" : Str)]) := upd_same
    generalize upd G20 lB (.lst [V.ref t13, V.ref t14, V.ref t15, V.ref t16, V.ref t17, V.ref t18, V.ref t19, V.ref t20, V.int 1, V.str ("11" : Str)]) = XB at *
    replace sm := sm.trans sB
    have alC := (alA.app alB).mono (fr_same sB)
    refine ⟨lA, lB, _, _, rfl, rfl, sB _ _ eA, eB, by show 22 ≤ sizeLine; decide, fun lC hlC => ?_⟩
    have neC := (u.same sm).ne hlC
    generalize hLL : ([V.ref t1, V.ref t2, V.ref t3, V.ref t4, V.ref t5, V.ref t6, V.ref t7, V.ref t8, V.ref t9, V.ref t10, V.ref t11, V.ref t12] ++ [V.ref t13, V.ref t14, V.ref t15, V.ref t16, V.ref t17, V.ref t18, V.ref t19, V.ref t20, V.int 1, V.str ("11" : Str)]) = LL at *
    have alL : Al K (NC c L) 1 XB LL := by rw [← hLL]; exact alC
    have ll : LL.length = 22 := by rw [← hLL]; rfl
    have sC := same_new (o := .lst LL) hlC
    have eC : (upd XB lC (.lst LL)) lC = some (.lst LL) := upd_same
    generalize upd XB lC (.lst LL) = XC at *
    replace sm := sm.trans sC
    refine ⟨.ref lC, rfl, .ref c, rfl, c, L, 22, fuel, rfl, u.same sm, by decide, by decide, fun dz H9 dz0 dz1 u9 b9 => ?_⟩
    have fr9 : Fr (NC c L) XC H9 := fr_but b9 (u.same sm)
    have eC9 := b9 _ _ neC.1 neC.2 eC
    obtain ⟨z', rfl⟩ : ∃ z' : Nat, dz = (z' : Int) := ⟨dz.toNat, by omega⟩
    have zl : z' < LL.length := by omega
    have hz := List.getElem?_eq_getElem zl
    obtain ⟨d', da', ob'⟩ := ((alL.mono (fr_same sC)).mono fr9) _ (List.getElem_mem zl)
    exact ⟨lC, _, _, _, rfl, rfl, .of eC9, atI_nat hz, q _ d' H9 da' ob' u9 ((but_same sm).trans b9)⟩
end
end K42

set_option Elab.async false
set_option linter.all false
set_option maxRecDepth 100000
set_option exponentiation.threshold 20000
namespace K42
open PySem PySem.Spec PyProof.Rows L2 Ly Mt El
/-- drawn rows -/
structure Drawn (A : List (List Rat)) (m n : Nat) : Prop where
  len : A.length = m
  rows : ∀ r ∈ A, r.length = n
  bd : ∀ r ∈ A, ∀ q ∈ r, EB q
theorem Drawn.inb {A : List (List Rat)} {m n : Nat} (h : Drawn A m n) (hm : m ≤ 5) (hn : n ≤ 5) : InB 3 (mD A) :=
  ⟨A, rfl, by rw [h.len]; exact hm, fun r hr => ⟨by rw [h.rows r hr]; exact hn, h.bd r hr⟩⟩
theorem out_in3 {d : PyData} (h : InB 3 d) : OutB 3 d := by
  obtain ⟨ds, rfl, l5, parts⟩ := in_parts (n := 2) h
  exact out_all (by omega) fun x hx => in_pp (n := 2) (parts x hx)
section
variable {P : Program} {w : World} {K : PySem.W.Frag} {mg : Str → Option Value} {base : Heap} {C : Addr}
abbrev s__law_drawn : Stmt := topS 52
theorem sc__law_drawn : FnScope ["cup", "many", "size", "thing", "way", "k", "j", "turn"] ["cup", "many", "size"] (defScope s__law_drawn) := ⟨rfl, rfl, rfl, by decide +kernel, rfl, by decide +kernel, by decide +kernel⟩
def sp_drawn (K : PySem.W.Frag) : Sp := fun vs H Q _ => ∃ (c L : Addr) (many size fuel : Nat), vs = [.ref c, .int many, .int size] ∧ many ≤ 5 ∧ size ≤ 5 ∧ Cup H c L (fuel + 30 + 5 * size * many) ∧ ∀ v' d' H', Da K (NC c L) H' v' d' → OutB 3 d' → Cup H' c L fuel → But c L H H' → Q v' H'
set_option maxHeartbeats 4000000 in
theorem ok__law_drawn {f : Addr} {fd : FuncData} {k : Nat} (F : Fun K "_law_drawn" "_law_drawn" s__law_drawn f fd) (T : Tx K mg C){ki : Nat} (D__law_sip : Def P w K mg base ki "_law_sip" s__law_sip ["cup", "many"] sp_sip) {kj : Nat} (D__law_entry : Def P w K mg base kj "_law_entry" s__law_entry ["cup", "great"] (sp_entry K)) {kl : Nat} (D__law_odd_ratio : Def P w K mg base kl "_law_odd_ratio" s__law_odd_ratio ["cup"] (sp_odd K)) {kn : Nat} (D__law_bent : Def P w K mg base kn "_law_bent" s__law_bent ["cup", "thing"] (sp_bent K 4)) (hk : ki ≤ k) (hj : kj ≤ k) (hl : kl ≤ k) (hn : kn ≤ k) : FnOk P w K mg base CX0 (k + 1) f fd ["cup", "many", "size"] (sp_drawn K) := by
  have nd := sc__law_drawn.nd
  refine F.ok sc__law_drawn (fun vs H Q E h => ?_) (fun cdv A outer s H vs Q E hr h => ?_)
  · obtain ⟨_, _, _, _, _, rfl, _⟩ := h
    rfl
  · obtain ⟨c, L, many, size, n, rfl, hm, hs, u, q⟩ := h
    refine ⟨_, (pss_cons (ps_set (i := 3) nd rfl (.inl rfl) (pe_callTy (kcall_tuple K) (by rfl) T.m_tuple (by decide +kernel) (pa_cons (pe_lc (own := [("turn", 7)]) (g := gName 7) (tt := tYes) rfl nd (pi_range1 rfl T.m_range (pa_cons (pv 1) pa_nil)) (blkOk_by (by rfl)) (fun _ _ _ _ _ => (pg_name (i := 7) nd rfl (.inl rfl))) (fun _ _ _ _ _ => pts_nil) (fun _ _ _ _ _ => (pe_callTy (kcall_tuple K) (by rfl) T.m_tuple (by decide +kernel) (pa_cons (pe_lc (own := [("k", 5)]) (g := gName 5) (tt := tYes) rfl nd (pi_range1 rfl T.m_range (pa_cons (pv 2) pa_nil)) (blkOk_by (by rfl)) (fun _ _ _ _ _ => (pg_name (i := 5) nd rfl (.inl rfl))) (fun _ _ _ _ _ => pts_nil) (fun _ _ _ _ _ => (pe_def D__law_entry (hr.mono (by omega)) rfl (pa_cons (pv 0) (pa_cons pe_bl pa_nil))))) pa_nil)))) pa_nil)))
      (pss_cons (ps_set (i := 4) nd rfl (.inl rfl) (pe_def D__law_sip (hr.mono (by omega)) rfl (pa_cons (pv 0) (pa_cons pe_int pa_nil))))
      (C8.pss_cut (ps_if (PW.pt (pw_and (pt_cmpR op_eq (pv 4) pe_int (nomark _)) (pw_and (pt_cmpR op_gt (pv 1) pe_int (nomark _)) (pw_and1 (pt_cmpR op_gt (pv 2) pe_int (nomark _))))))
        (pss_cons (ps_par (i := 5) (j := 6) (by rfl) nd rfl rfl (by decide) rfl rfl (pa_cons (pe_def D__law_sip (hr.mono (by omega)) rfl (pa_cons (pv 0) (pa_cons (pv 1) pa_nil))) (pa_cons (pe_def D__law_sip (hr.mono (by omega)) rfl (pa_cons (pv 0) (pa_cons (pv 2) pa_nil))) pa_nil)) (by rfl))
        (pss_one (ps_set (i := 3) nd rfl (.inl rfl) (pe_op (kop_catA K) (pe_op (kop_catA K) (pe_slice (ksl_tupA K) (pv 3) po_none (po_some (pv 5))) (pe_tup (pa_cons (pe_op (kop_catA K) (pe_op (kop_catA K) (pe_slice (ksl_tupA K) (pe_ix (kix_tup K) (pv 3) (pv 5) (fun _ _ => rfl)) po_none (po_some (pv 6))) (pe_tup (pa_cons (pe_def D__law_odd_ratio (hr.mono (by omega)) rfl (pa_cons (pv 0) pa_nil)) pa_nil))) (pe_slice (ksl_tupA K) (pe_ix (kix_tup K) (pv 3) (pv 5) (fun _ _ => rfl)) (po_some (pe_op op_add (pv 6) pe_int)) po_none)) pa_nil))) (pe_slice (ksl_tupA K) (pv 3) (po_some (pe_op op_add (pv 5) pe_int)) po_none)))))
        pss_nil)
      (pss_cons (ps_if (PW.pt (pw_or (pt_cmpR op_eq (pv 4) pe_int (nomark _)) (pw_or1 (pt_cmpR op_eq (pv 4) pe_int (nomark _)))))
        (pss_one (ps_set (i := 3) nd rfl (.inl rfl) (pe_def D__law_bent (hr.mono (by omega)) rfl (pa_cons (pv 0) (pa_cons (pv 3) pa_nil)))))
        pss_nil)
      (pss_one (ps_ret (pv 3))))))), ?_⟩
    refine ⟨_, rfl, many, rfl, by omega, by omega, fun D hD => ?_⟩
    have neD := u.ne hD
    refine lc_all (walk_range (lo := 0) (n := many)) (fun i H2 => ∃ As acc, Drawn As i size ∧ But c L H H2 ∧ Cup H2 c L (n + 30 + 5 * size * (many - i)) ∧ H2 D = some (.lst acc) ∧ ImAll K H2 acc (As.map vD)) ⟨[], [], ⟨rfl, fun _ h => by simp at h, fun _ h => by simp at h⟩, but_same (same_new hD), u.same (same_new hD), upd_same, .nil⟩ (fun _ _ _ _ => trivial) (fun i x H2 H3 hi z y => ?_) (fun H2 z => ?_)
    · obtain ⟨As, acc, dr, bt, u2, eD, ia⟩ := z
      obtain ⟨rfl, rfl⟩ := y
      have lacc : acc.length = i := by rw [all_len ia]; exact dr.len
      have ef : 5 * size * (many - i) = 5 * size * (many - (i + 1)) + 5 * size := by
        rw [show many - i = (many - (i + 1)) + 1 by omega, Nat.mul_succ]
      rw [ef] at u2
      refine ⟨rfl, .int size, rfl, size, rfl, by omega, by omega, fun D2 hD2 => ?_⟩
      refine lc_all (walk_range (lo := 0) (n := size)) (fun j H4 => ∃ r acc2, r.length = j ∧ (∀ q ∈ r, EB q) ∧ But c L H3 H4 ∧ Cup H4 c L (n + 30 + 5 * size * (many - (i + 1)) + 5 * (size - j)) ∧ H4 D2 = some (.lst acc2) ∧ ImAll K H4 acc2 (r.map rD)) ⟨[], [], rfl, fun _ h => by simp at h, but_same (same_new hD2), ?_, upd_same, .nil⟩ (fun _ _ _ _ => trivial) (fun j x H4 H5 hj z y => ?_) (fun H4 z => ?_)
      · rw [Nat.sub_zero]
        exact Cup.same (by rw [Nat.add_assoc]; exact u2) (same_new hD2)
      · obtain ⟨r, acc2, lr, br, b4, u4, eD2, ir⟩ := z
        obtain ⟨rfl, rfl⟩ := y
        have ef2 : n + 30 + 5 * size * (many - (i + 1)) + 5 * (size - j) = (n + 30 + 5 * size * (many - (i + 1)) + 5 * (size - (j + 1))) + 5 := by omega
        rw [ef2] at u4
        have ne2 := (show D2 ≠ c ∧ D2 ≠ L from u2.ne hD2)
        refine ⟨rfl, .ref c, rfl, c, L, true, _, rfl, u4, fun qq p H6 ip bq1 bq2 bq3 u6 b6 np => ?_⟩
        have eD6 := b6 _ _ ne2.1 ne2.2 eD2
        have l2 : acc2.length = j := by rw [all_len ir]; exact lr
        refine ⟨acc2, eD6, small1000 (by omega), r ++ [qq], acc2 ++ [.ref p], by rw [List.length_append, lr]; rfl, fun y hy => ?_, fun b o h1 h2 e => ?_, u6.upd ne2.1 ne2.2, upd_same, ?_⟩
        · rcases List.mem_append.mp hy with h | h
          · exact br y h
          · rw [List.mem_singleton.mp h]; exact ⟨bq1, bq2, bq3⟩
        · rw [upd_ne (ne_of_none e hD2)]
          exact b6 b o h1 h2 (b4 b o h1 h2 e)
        · rw [List.map_append]
          exact (ImAll.mono ((b6.tk u4).trans (tk_lst eD6)) _ ir).snoc (Im.mono (tk_lst eD6) _ ip)
      · obtain ⟨r, acc2, lr, br, b4, u4, eD2, ir⟩ := z
        rw [Nat.sub_self, Nat.mul_zero, Nat.add_zero] at u4
        refine ⟨D2, acc2, rfl, .inl ⟨.of eD2, fun l hl => ?_⟩⟩
        have ne2 := (show D ≠ c ∧ D ≠ L from neD)
        have eD4 := b4 _ _ ne2.1 ne2.2 eD
        have eD5 : (upd H4 l (.tup acc2)) D = some (.lst acc) := by rw [upd_ne (ne_of_none eD4 hl)]; exact eD4
        refine ⟨acc, eD5, small1000 (by omega), As ++ [r], acc ++ [.ref l], ⟨by rw [List.length_append, dr.len]; rfl, fun y hy => ?_, fun y hy => ?_⟩, fun b o h1 h2 e => ?_, (u4.same (same_new hl)).upd ne2.1 ne2.2, upd_same, ?_⟩
        · rcases List.mem_append.mp hy with h | h
          · exact dr.rows y h
          · rw [List.mem_singleton.mp h]; exact lr
        · rcases List.mem_append.mp hy with h | h
          · exact dr.bd y h
          · rw [List.mem_singleton.mp h]; exact br
        · rw [upd_ne (ne_of_none e hD)]
          have h4 := b4 b o h1 h2 (bt b o h1 h2 e)
          rw [upd_ne (ne_of_none h4 hl)]; exact h4
        · rw [List.map_append]
          have t1 : TK H3 H4 := b4.tk u2
          exact (ImAll.mono ((t1.trans (tk_new hl)).trans (tk_lst eD5)) _ ia).snoc (Im.mono (tk_lst eD5) _ (.tup (.inl upd_same) (ImAll.mono (tk_new hl) _ ir)))
    · obtain ⟨As, acc, dr, bt, u2, eD, ia⟩ := z
      rw [Nat.sub_self, Nat.mul_zero, Nat.add_zero] at u2
      refine ⟨D, acc, rfl, .inl ⟨.of eD, fun l hl => ?_⟩⟩
      have i1 : Im K (upd H2 l (.tup acc)) (.ref l) (mD As) := .tup (.inl upd_same) (ImAll.mono (tk_new hl) _ ia)
      have u1 := u2.same (same_new (o := .tup acc) hl)
      have b1 := bt.trans (but_same (same_new (o := .tup acc) hl))
      generalize upd H2 l (.tup acc) = H1 at *
      have ib := dr.inb hm hs
      obtain ⟨ds, eds, l5, parts⟩ := in_parts (n := 2) ib
      refine ⟨.ref c, rfl, c, L, 6, n + 29, rfl, u1, by decide, by decide, fun wy H3 wy0 wy1 u3 b3 => ?_⟩
      have b13 := b1.trans b3
      have i3 := Im.mono (b3.tk u1) _ i1
      refine ⟨fun σ' H' => ∃ v' d' k5 k6, σ' = [some (.ref c), some (.int many), some (.int size), some v', some (.int wy), k5, k6, none] ∧ Cup H' c L (n + 20) ∧ But c L H H' ∧ Da K (NC c L) H' v' d' ∧ OutB 3 d' ∧ (wy ≠ 0 → Im K H' v' d' ∧ InB 3 d'), ?_, ?_⟩
      · have stay : ∃ v' d' k5 k6, [some (V.ref c), some (.int many), some (.int size), some (.ref l), some (.int wy), none, none, none] = [some (.ref c), some (.int many), some (.int size), some v', some (.int wy), k5, k6, none] ∧ Cup H3 c L (n + 20) ∧ But c L H H3 ∧ Da K (NC c L) H3 v' d' ∧ OutB 3 d' ∧ (wy ≠ 0 → Im K H3 v' d' ∧ InB 3 d') :=
          ⟨_, _, none, none, rfl, u3.less (by omega), b13, Im.da _ i3, out_in3 ib, fun _ => ⟨i3, ib⟩⟩
        refine ⟨.int wy, rfl, rfl, _, rfl, ?_⟩
        by_cases w0 : wy = 0
        · rw [decide_eq_true (show V.int wy = V.int 0 by rw [w0])]
          refine iteT ⟨.int many, rfl, _, _, rfl, rfl, _, rfl, ?_⟩
          by_cases m0 : (many : Int) > 0
          · rw [decide_eq_true m0]
            refine iteT ⟨.int size, rfl, _, _, rfl, rfl, _, rfl, ?_⟩
            by_cases s0 : (size : Int) > 0
            · rw [decide_eq_true s0]
              refine iteT ⟨.ref c, rfl, .int many, rfl, c, L, _, n + 28, rfl, u3, m0, by omega, fun dk H4 dk0 dk1 u4 b4 => ?_⟩
              obtain ⟨k', rfl⟩ : ∃ k' : Nat, dk = (k' : Int) := ⟨dk.toNat, by omega⟩
              refine ⟨.ref c, rfl, .int size, rfl, c, L, _, n + 27, rfl, u4, s0, by omega, fun dj H5 dj0 dj1 u5 b5 => ⟨_, _, rfl, ?_⟩⟩
              obtain ⟨j', rfl⟩ : ∃ j' : Nat, dj = (j' : Int) := ⟨dj.toNat, by omega⟩
              have b35 := b4.trans b5
              have i5 := Im.mono (b35.tk u3) _ i3
              obtain ⟨a, xs, ea, ha, hxs⟩ := i5.tuple_inv
              obtain rfl := V.ref.inj ea
              have lx : xs.length = As.length := all_len hxs
              have kl : k' < As.length := by rw [dr.len]; omega
              have hA : As[k']? = some As[k'] := List.getElem?_eq_getElem kl
              have mr := List.getElem_mem kl
              generalize As[k'] = row at hA mr
              have lrow : row.length = size := dr.rows row mr
              have jl : j' < row.length := by omega
              have hx5 : DaAll K (NC c L) H5 xs (As.map vD) := ImAll.da _ hxs
              have pm : ∀ y ∈ As.map vD, PP 3 y := fun y hy => by
                obtain ⟨r, hr', rfl⟩ := List.mem_map.mp hy
                exact in_pp (n := 2) ⟨r, rfl, by rw [dr.rows r hr']; exact hs, dr.bd r hr'⟩
              have pr : ∀ y ∈ row.map rD, PP 2 y := fun y hy => by
                obtain ⟨q', hq', rfl⟩ := List.mem_map.mp hy
                exact in_pp (n := 1) ⟨q', rfl, dr.bd row mr q' hq'⟩
              refine ⟨.ref l, rfl, .int k', rfl, k', rfl, sl_da ha hx5 fun p6 H6 es6 s6 i6 d6 m6 => ?_⟩
              have l6 : es6.length ≤ k' := by rw [← d6.len]; exact cut_hi
              have ha6 := ha.mono (tk_same s6)
              obtain ⟨x, hx, ix⟩ := all_at hxs hA
              obtain ⟨ar, zs, rfl, har, hzs⟩ := vec_inv (Im.mono (tk_same s6) _ ix)
              have lz : zs.length = row.length := all_len hzs
              have hz6 : DaAll K (NC c L) H6 zs (row.map rD) := ImAll.da _ hzs
              refine ⟨.ref l, rfl, .int k', rfl, l, xs, _, _, rfl, rfl, ha6.sq, atI_nat hx, .int j', rfl, j', rfl, sl_da har hz6 fun p7 H7 es7 s7 i7 d7 m7 => ?_⟩
              have l7 : es7.length ≤ j' := by rw [← d7.len]; exact cut_hi
              have u7 := (u5.same s6).same s7
              refine ⟨.ref c, rfl, c, L, n + 26, rfl, u7, fun v8 d8 H8 da8 sm8 u8 b8 => ?_⟩
              have fr8 : Fr (NC c L) H7 H8 := fr_but b8 u7
              refine ⟨by show 1 ≤ sizeLine; decide, fun t9 ht9 => ?_⟩
              have s9 := same_new (o := .tup [v8]) ht9
              have e9 : (upd H8 t9 (.tup [v8])) t9 = some (.tup [v8]) := upd_same
              generalize upd H8 t9 (.tup [v8]) = H9 at *
              have fr9 := fr8.trans (fr_same s9)
              refine cat_da (i7.mono fr9.1) (DaAll.mono fr9 _ d7) (.inl e9) (.cons (Da.mono (fr_same s9) _ da8) .nil) (by rw [d7.len]; show _ + 1 ≤ 1000; omega) fun p10 H10 s10 i10 d10 => ?_
              have fr10 := fr9.trans (fr_same s10)
              have fr610 := (fr_same (S := NC c L) s7).trans fr10
              have ha10 := ha6.mono fr610.1
              refine ⟨.ref l, rfl, .int k', rfl, l, xs, _, _, rfl, rfl, ha10.sq, atI_nat hx, .int j', rfl, _, _, rfl, rfl, _, rfl, ?_⟩
              dsimp only [tNoPart]
              refine sl_da (har.mono fr610.1) (DaAll.mono fr610 _ hz6) fun p11 H11 es11 s11 i11 d11 m11 => ?_
              have l11 : es11.length ≤ zs.length - (j' + 1) := by rw [← d11.len]; exact cut_lo (k := j' + 1)
              refine cat_da (i10.mono (tk_same s11)) (DaAll.mono (fr_same s11) _ d10) i11 d11 (by rw [d10.len, d11.len]; simp only [List.length_append, List.length_cons, List.length_nil]; omega) fun p12 H12 s12 i12 d12 => ?_
              have o12 : OutB 2 (.tuple (es7 ++ d8 :: es11)) := out_one (n := 1) (by simp only [List.length_append, List.length_cons]; omega) (fun y hy => pr y (m7 y hy)) (fun y hy => pr y (m11 y hy)) sm8 (by decide)
              rw [List.append_assoc es7] at d12
              refine ⟨by show 1 ≤ sizeLine; decide, fun t13 ht13 => ?_⟩
              have s13 := same_new (o := .tup [.ref p12]) ht13
              have e13 : (upd H12 t13 (.tup [.ref p12])) t13 = some (.tup [.ref p12]) := upd_same
              generalize upd H12 t13 (.tup [.ref p12]) = H13 at *
              have fr13 := (((fr610.trans (fr_same s11)).trans (fr_same s12))).trans (fr_same s13)
              refine cat_da (i6.mono fr13.1) (DaAll.mono fr13 _ d6) (.inl e13) (.cons (.tup (i12.mono (tk_same s13)) (DaAll.mono (fr_same s13) _ d12)) .nil) (by rw [d6.len]; show _ + 1 ≤ 1000; omega) fun p14 H14 s14 i14 d14 => ?_
              have fr14 := fr13.trans (fr_same s14)
              refine ⟨.ref l, rfl, .int k', rfl, _, _, rfl, rfl, _, rfl, ?_⟩
              dsimp only [tNoPart]
              refine sl_da (ha6.mono fr14.1) (DaAll.mono ((fr_same s6).trans fr14) _ hx5) fun p15 H15 es15 s15 i15 d15 m15 => ?_
              have l15 : es15.length ≤ xs.length - (k' + 1) := by rw [← d15.len]; exact cut_lo (k := k' + 1)
              refine cat_da (i14.mono (tk_same s15)) (DaAll.mono (fr_same s15) _ d14) i15 d15 (by rw [d14.len, d15.len]; simp only [List.length_append, List.length_cons, List.length_nil]; have := dr.len; omega) fun p16 H16 s16 i16 d16 => ?_
              rw [List.append_assoc es6] at d16
              have o16 : OutB 3 (.tuple (es6 ++ PyData.tuple (es7 ++ d8 :: es11) :: es15)) := out_one (n := 2) (by simp only [List.length_append, List.length_cons]; have := dr.len; omega) (fun y hy => pm y (m6 y hy)) (fun y hy => pm y (m15 y hy)) o12 (by decide)
              have s916 := (((((((s9.trans s10).trans s11).trans s12).trans s13).trans s14).trans s15).trans s16)
              exact ⟨.ref p16, _, some (.int k'), some (.int j'), rfl, (u8.same s916).less (by omega), (b13.trans b35).trans ((((but_same (s6.trans s7))).trans b8).trans (but_same s916)), .tup i16 d16, o16, fun h => absurd w0 h⟩
            · rw [decide_eq_false s0]
              exact iteF stay
          · rw [decide_eq_false m0]
            exact iteF (iteF stay)
        · rw [decide_eq_false (show ¬ V.int wy = V.int 0 from fun z => w0 (V.int.inj z))]
          exact iteF (iteF stay)
      · rintro σ' H' ⟨v', d', k5, k6, rfl, u6, b6, da, ob, hw⟩
        have last : ∀ v2 d2 H2, Da K (NC c L) H2 v2 d2 → OutB 3 d2 → Cup H2 c L n → But c L H' H2 → Q v2 H2 := fun v2 d2 H2 da2 ob2 u2' b2' => q v2 d2 H2 da2 ob2 u2' (b6.trans b2')
        refine ⟨.int wy, rfl, rfl, _, rfl, ?_⟩
        by_cases w1 : wy = 1
        · rw [decide_eq_true (show V.int wy = V.int 1 by rw [w1])]
          refine iteT (iteT ⟨.ref c, rfl, v', rfl, ?_⟩)
          exact ⟨c, L, v', d', n, rfl, u6.less (show n + 4 * (3 + 1) ≤ n + 20 by omega), (hw (by omega)).1, (hw (by omega)).2, fun v2 d2 H2 da2 ob2 u2' b2' => ⟨v2, rfl, last v2 d2 H2 da2 ob2 u2' b2'⟩⟩
        · rw [decide_eq_false (show ¬ V.int wy = V.int 1 from fun z => w1 (V.int.inj z))]
          refine iteF ⟨.int wy, rfl, rfl, _, rfl, ?_⟩
          by_cases w2 : wy = 2
          · rw [decide_eq_true (show V.int wy = V.int 2 by rw [w2])]
            refine iteT ⟨.ref c, rfl, v', rfl, ?_⟩
            exact ⟨c, L, v', d', n, rfl, u6.less (show n + 4 * (3 + 1) ≤ n + 20 by omega), (hw (by omega)).1, (hw (by omega)).2, fun v2 d2 H2 da2 ob2 u2' b2' => ⟨v2, rfl, last v2 d2 H2 da2 ob2 u2' b2'⟩⟩
          · rw [decide_eq_false (show ¬ V.int wy = V.int 2 from fun z => w2 (V.int.inj z))]
            exact iteF ⟨v', rfl, last v' d' H' da ob (u6.less (by omega)) (But.refl c L H')⟩
end
end K42

set_option Elab.async false
set_option linter.all false
set_option maxRecDepth 100000
set_option exponentiation.threshold 20000
namespace K42
open PySem PySem.Spec PyProof.Rows L2 Ly Mt El
def half : Rat := ⟨1, 2, by decide, by decide⟩
theorem sn_half : Sn 42 42 half := ⟨21, by decide +kernel, by decide⟩
/-- rows of 1/2 or of 0, some of them long -/
structure Long (A : List (List Rat)) : Prop where
  pos : 1 ≤ A.length
  few : A.length ≤ 49
  rows : ∀ r ∈ A, r.length ≤ 49 ∧ ∀ x ∈ r, x = half ∨ x = 0
theorem sm_half : smD (rD half) := smD_tup.mpr (smAll_of fun d hd => by
  have : d = .int 1 ∨ d = .int 2 := by simpa [rD, half] using hd
  rcases this with e | e <;> rw [e] <;> exact smD_int.mpr (by decide))
theorem sm_vec {r : List Rat} (h : ∀ x ∈ r, smD (rD x)) : smD (vD r) := smD_tup.mpr (smAll_of fun d hd => by
  obtain ⟨q, hq, rfl⟩ := List.mem_map.mp hd
  exact h q hq)
theorem sm_mat {A : List (List Rat)} (h : ∀ r ∈ A, ∀ x ∈ r, smD (rD x)) : smD (mD A) := smD_tup.mpr (smAll_of fun d hd => by
  obtain ⟨r, hr, rfl⟩ := List.mem_map.mp hd
  exact sm_vec (h r hr))
theorem Long.sm {A : List (List Rat)} (h : Long A) : ∀ r ∈ A, ∀ x ∈ r, smD (rD x) := fun r hr x hx => by
  rcases (h.rows r hr).2 x hx with e | e <;> rw [e]
  · exact sm_half
  · exact eb_sm eb_zero
theorem Long.tiny {A : List (List Rat)} (h : Long A) : ∀ r ∈ A, ∀ x ∈ r, Sn 42 42 x := fun r hr x hx => by
  rcases (h.rows r hr).2 x hx with e | e <;> rw [e]
  · exact sn_half
  · exact sn_zero _ _
theorem rep_half {n : Nat} (h : n ≤ 49) : (List.replicate n half).length ≤ 49 ∧ ∀ x ∈ List.replicate n half, x = half ∨ x = 0 := ⟨by rw [List.length_replicate]; exact h, fun x hx => .inl (List.mem_replicate.mp hx).2⟩
def Ln (K : PySem.W.Frag) (H : Hp) (x : V) : Prop := ∃ A, Im K H x (mD A) ∧ Long A
section
variable {P : Program} {w : World} {K : PySem.W.Frag} {mg : Str → Option Value} {base : Heap} {C : Addr}
theorem Ln.mono {H H' : Hp} {x : V} (h : Ln K H x) (t : TK H H') : Ln K H' x := by
  obtain ⟨A, h1, h2⟩ := h
  exact ⟨A, Im.mono t _ h1, h2⟩
theorem cut_rep {n : Nat} {x : V} {lo hi : Option Int} : ∃ m, m ≤ n ∧ cutV (List.replicate n x) lo hi = List.replicate m x := by
  unfold cutV
  rw [List.drop_replicate, List.take_replicate]
  exact ⟨_, by omega, rfl⟩
abbrev s__law_long : Stmt := topS 53
theorem sc__law_long : FnScope ["cup", "size", "line"] ["cup"] (defScope s__law_long) := ⟨rfl, rfl, rfl, by decide +kernel, rfl, by decide +kernel, by decide +kernel⟩
def sp_long (K : PySem.W.Frag) : Sp := fun vs H Q _ => ∃ (c L : Addr) (fuel : Nat), vs = [.ref c] ∧ Cup H c L (fuel + 2) ∧ ∀ v' A H', Im K H' v' (mD A) → Long A → Cup H' c L fuel → But c L H H' → Q v' H'
set_option maxHeartbeats 1000000 in
theorem ok__law_long {f : Addr} {fd : FuncData} {k : Nat} (F : Fun K "_law_long" "_law_long" s__law_long f fd) (T : Tx K mg C){ki : Nat} (D__law_sip : Def P w K mg base ki "_law_sip" s__law_sip ["cup", "many"] sp_sip) (hk : ki ≤ k) : FnOk P w K mg base CX0 (k + 1) f fd ["cup"] (sp_long K) := by
  have nd := sc__law_long.nd
  refine F.ok sc__law_long (fun vs H Q E h => ?_) (fun cdv A outer s H vs Q E hr h => ?_)
  · obtain ⟨_, _, _, rfl, _⟩ := h
    rfl
  · obtain ⟨c, L, fuel, rfl, u, q⟩ := h
    refine ⟨_, (pss_cons (ps_set (i := 1) nd rfl (.inl rfl) (pe_op op_add pe_int (pe_def D__law_sip (hr.mono (by omega)) rfl (pa_cons (pv 0) (pa_cons pe_int pa_nil)))))
      (pss_cons (ps_set (i := 2) nd rfl (.inl rfl) (pe_op (kop_repTA K) (pe_tup (pa_cons (pe_tup (pa_cons pe_int (pa_cons pe_int pa_nil))) pa_nil)) (pv 1)))
      (pss_one (ps_ret (pe_ix (kix_list K) (pe_lst (pa_cons (pe_tup (pa_cons (pv 2) pa_nil)) (pa_cons (pe_tup (pa_cons (pv 2) (pa_cons (pv 2) pa_nil))) (pa_cons (pe_op (kop_repTA K) (pe_tup (pa_cons (pe_tup pa_nil) pa_nil)) (pv 1)) (pa_cons (pe_op (kop_repTA K) (pe_tup (pa_cons (pe_tup (pa_cons (pe_tup (pa_cons pe_int (pa_cons pe_int pa_nil))) pa_nil)) pa_nil)) (pv 1)) (pa_cons (pe_op (kop_repTA K) (pe_tup (pa_cons (pe_slice (ksl_tupA K) (pv 2) po_none (po_some pe_int)) pa_nil)) pe_int) (pa_cons (pe_tup (pa_cons (pe_slice (ksl_tupA K) (pv 2) (po_some pe_int) po_none) (pa_cons (pv 2) pa_nil))) pa_nil))))))) (pe_def D__law_sip (hr.mono (by omega)) rfl (pa_cons (pv 0) (pa_cons pe_int pa_nil))) (fun _ _ => rfl)))))), ?_⟩
    refine ⟨.ref c, rfl, c, L, 2, fuel + 1, rfl, u, by decide, by decide, fun d1 H1 d10 d11 u1 b1 => ⟨_, _, rfl, rfl, ?_⟩⟩
    obtain ⟨n, hn, n49⟩ : ∃ n : Nat, (48 : Int) + d1 = (n : Int) ∧ n ≤ 49 := ⟨(48 + d1).toNat, by omega, by omega⟩
    change gName 1 (V.int ((48 : Int) + d1)) _ _ _
    rw [hn]
    refine ⟨by show 2 ≤ sizeLine; decide, fun t1 ht1 => ⟨by show 1 ≤ sizeLine; decide, fun t2 ht2 => ⟨.int n, rfl, ?_⟩⟩⟩
    have s1 := same_new (o := .tup [.int 1, .int 2]) ht1
    have i1 : Im K (upd H1 t1 (.tup [.int 1, .int 2])) (.ref t1) (rD half) := rat_mk (q := half) (.inl upd_same)
    generalize upd H1 t1 (.tup [.int 1, .int 2]) = G1 at *
    have s2 := same_new (o := .tup [V.ref t1]) ht2
    have i2 : ITup K (upd G1 t2 (.tup [V.ref t1])) t2 [V.ref t1] := .inl upd_same
    generalize upd G1 t2 (.tup [V.ref t1]) = G2 at *
    refine rep_any i2 (by omega) fun p3 G3 s3 i3 => ?_
    have ih3 := Im.mono (tk_same (s2.trans s3)) _ i1
    have vec3 : ∀ {H' : Hp}, Same G3 H' → ∀ m, m ≤ n → ∀ {p}, ITup K H' p (List.replicate m (V.ref t1)) → Im K H' (.ref p) (vD (List.replicate m half)) := fun s m hm p hp => .tup hp (all_rep (Im.mono (tk_same s) _ ih3) m)
    have sm := (s1.trans s2).trans s3
    -- (line,)
    refine ⟨.ref p3, rfl, by show 1 ≤ sizeLine; decide, fun t4 ht4 => ?_⟩
    have s4 := same_new (o := .tup [V.ref p3]) ht4
    have e4 : (upd G3 t4 (.tup [V.ref p3])) t4 = some (.tup [V.ref p3]) := upd_same
    generalize upd G3 t4 (.tup [V.ref p3]) = G4 at *
    have line4 := vec3 s4 n (Nat.le_refl _) (i3.mono (tk_same s4))
    have l1 : Ln K G4 (.ref t4) := ⟨[List.replicate n half], .tup (.inl e4) (.cons line4 .nil), ⟨by simp, by simp, fun r hr => by rw [List.mem_singleton.mp hr]; exact rep_half n49⟩⟩
    -- (line, line)
    refine ⟨.ref p3, rfl, .ref p3, rfl, by show 2 ≤ sizeLine; decide, fun t5 ht5 => ?_⟩
    have s5 := same_new (o := .tup [V.ref p3, V.ref p3]) ht5
    have e5 : (upd G4 t5 (.tup [V.ref p3, V.ref p3])) t5 = some (.tup [V.ref p3, V.ref p3]) := upd_same
    generalize upd G4 t5 (.tup [V.ref p3, V.ref p3]) = G5 at *
    have line5 := Im.mono (tk_same s5) _ line4
    have l2 : Ln K G5 (.ref t5) := ⟨[List.replicate n half, List.replicate n half], .tup (.inl e5) (.cons line5 (.cons line5 .nil)), ⟨by simp, by simp, fun r hr => by
      have : r = List.replicate n half ∨ r = List.replicate n half := by simpa using hr
      rcases this with rfl | rfl <;> exact rep_half n49⟩⟩
    replace l1 := l1.mono (tk_same s5)
    -- ((),) * size
    refine ⟨by show 0 ≤ sizeLine; decide, fun t6 ht6 => ⟨by show 1 ≤ sizeLine; decide, fun t7 ht7 => ⟨.int n, rfl, ?_⟩⟩⟩
    have s6 := same_new (o := .tup []) ht6
    have i6 : Im K (upd G5 t6 (.tup [])) (.ref t6) (vD []) := .tup (.inl upd_same) .nil
    generalize upd G5 t6 (.tup []) = G6 at *
    have s7 := same_new (o := .tup [V.ref t6]) ht7
    have i7 : ITup K (upd G6 t7 (.tup [V.ref t6])) t7 [V.ref t6] := .inl upd_same
    generalize upd G6 t7 (.tup [V.ref t6]) = G7 at *
    refine rep_any i7 (by omega) fun p8 G8 s8 i8 => ?_
    have s68 := (s6.trans s7).trans s8
    have n1 : 1 ≤ n := by omega
    have l3 : Ln K G8 (.ref p8) := ⟨List.replicate n [], .tup i8 (all_rep (f := vD) (Im.mono (tk_same (s7.trans s8)) _ i6) n), ⟨by rw [List.length_replicate]; exact n1, by rw [List.length_replicate]; exact n49, fun r hr => by
      rw [(List.mem_replicate.mp hr).2]; exact ⟨by simp, fun x hx => by simp at hx⟩⟩⟩
    replace l1 := l1.mono (tk_same s68)
    replace l2 := l2.mono (tk_same s68)
    -- (((0, 1),),) * size
    refine ⟨by show 2 ≤ sizeLine; decide, fun t9 ht9 => ⟨by show 1 ≤ sizeLine; decide, fun t10 ht10 => ⟨by show 1 ≤ sizeLine; decide, fun t11 ht11 => ⟨.int n, rfl, ?_⟩⟩⟩⟩
    have s9 := same_new (o := .tup [.int 0, .int 1]) ht9
    have i9 : Im K (upd G8 t9 (.tup [.int 0, .int 1])) (.ref t9) (rD 0) := rat_mk (q := 0) (.inl upd_same)
    generalize upd G8 t9 (.tup [.int 0, .int 1]) = G9 at *
    have s10 := same_new (o := .tup [V.ref t9]) ht10
    have i10 : Im K (upd G9 t10 (.tup [V.ref t9])) (.ref t10) (vD [0]) := .tup (.inl upd_same) (.cons (Im.mono (tk_same s10) _ i9) .nil)
    generalize upd G9 t10 (.tup [V.ref t9]) = G10 at *
    have s11 := same_new (o := .tup [V.ref t10]) ht11
    have i11 : ITup K (upd G10 t11 (.tup [V.ref t10])) t11 [V.ref t10] := .inl upd_same
    generalize upd G10 t11 (.tup [V.ref t10]) = G11 at *
    refine rep_any i11 (by omega) fun p12 G12 s12 i12 => ?_
    have s912 := ((s9.trans s10).trans s11).trans s12
    have l4 : Ln K G12 (.ref p12) := ⟨List.replicate n [0], .tup i12 (all_rep (f := vD) (Im.mono (tk_same (s11.trans s12)) _ i10) n), ⟨by rw [List.length_replicate]; exact n1, by rw [List.length_replicate]; exact n49, fun r hr => by
      rw [(List.mem_replicate.mp hr).2]; exact ⟨by simp, fun x hx => .inr (List.mem_singleton.mp hx)⟩⟩⟩
    replace l1 := l1.mono (tk_same s912)
    replace l2 := l2.mono (tk_same s912)
    replace l3 := l3.mono (tk_same s912)
    have s312 := ((s4.trans s5).trans s68).trans s912
    -- (line[:48],) * 2
    refine ⟨.ref p3, rfl, 48, rfl, ?_⟩
    refine sl_any (i3.mono (tk_same s312)) fun p13 G13 s13 i13 => ?_
    obtain ⟨m13, hm13, em13⟩ := cut_rep (n := n) (x := V.ref t1) (lo := none) (hi := some 48)
    rw [em13] at i13
    have v13 := vec3 (s312.trans s13) m13 hm13 i13
    refine ⟨by show 1 ≤ sizeLine; decide, fun t14 ht14 => ?_⟩
    have s14 := same_new (o := .tup [V.ref p13]) ht14
    have i14 : ITup K (upd G13 t14 (.tup [V.ref p13])) t14 [V.ref p13] := .inl upd_same
    generalize upd G13 t14 (.tup [V.ref p13]) = G14 at *
    dsimp only [tC]
    refine rep_any (n := 2) i14 (by omega) fun p15 G15 s15 i15 => ?_
    have s1315 := (s13.trans s14).trans s15
    have l5 : Ln K G15 (.ref p15) := ⟨List.replicate 2 (List.replicate m13 half), .tup i15 (all_rep (f := vD) (Im.mono (tk_same (s14.trans s15)) _ v13) 2), ⟨by simp, by simp, fun r hr => by
      rw [(List.mem_replicate.mp hr).2]; exact rep_half (by omega)⟩⟩
    replace l1 := l1.mono (tk_same s1315)
    replace l2 := l2.mono (tk_same s1315)
    replace l3 := l3.mono (tk_same s1315)
    replace l4 := l4.mono (tk_same s1315)
    have s315 := s312.trans s1315
    -- (line[1:], line)
    refine ⟨.ref p3, rfl, 1, rfl, ?_⟩
    dsimp only [tNoPart]
    refine sl_any (i3.mono (tk_same s315)) fun p16 G16 s16 i16 => ?_
    obtain ⟨m16, hm16, em16⟩ := cut_rep (n := n) (x := V.ref t1) (lo := some 1) (hi := none)
    rw [em16] at i16
    have v16 := vec3 (s315.trans s16) m16 hm16 i16
    refine ⟨.ref p3, rfl, by show 2 ≤ sizeLine; decide, fun t17 ht17 => ?_⟩
    have s17 := same_new (o := .tup [V.ref p16, V.ref p3]) ht17
    have e17 : (upd G16 t17 (.tup [V.ref p16, V.ref p3])) t17 = some (.tup [V.ref p16, V.ref p3]) := upd_same
    generalize upd G16 t17 (.tup [V.ref p16, V.ref p3]) = G17 at *
    have s1617 := s16.trans s17
    have line17 := vec3 (s315.trans s1617) n (Nat.le_refl _) (i3.mono (tk_same (s315.trans s1617)))
    have l6 : Ln K G17 (.ref t17) := ⟨[List.replicate m16 half, List.replicate n half], .tup (.inl e17) (.cons (Im.mono (tk_same s17) _ v16) (.cons line17 .nil)), ⟨by simp, by simp, fun r hr => by
      have : r = List.replicate m16 half ∨ r = List.replicate n half := by simpa using hr
      rcases this with rfl | rfl
      · exact rep_half (by omega)
      · exact rep_half n49⟩⟩
    replace l1 := l1.mono (tk_same s1617)
    replace l2 := l2.mono (tk_same s1617)
    replace l3 := l3.mono (tk_same s1617)
    replace l4 := l4.mono (tk_same s1617)
    replace l5 := l5.mono (tk_same s1617)
    refine ⟨by show 6 ≤ sizeLine; decide, fun lA hlA => ?_⟩
    have s017 := (sm.trans s315).trans s1617
    have u17 := u1.same s017
    have neA := u17.ne hlA
    have sA := same_new (o := .lst [V.ref t4, V.ref t5, V.ref p8, V.ref p12, V.ref p15, V.ref t17]) hlA
    have eA : (upd G17 lA (.lst [V.ref t4, V.ref t5, V.ref p8, V.ref p12, V.ref p15, V.ref t17])) lA = some (.lst [V.ref t4, V.ref t5, V.ref p8, V.ref p12, V.ref p15, V.ref t17]) := upd_same
    have all : ∀ x ∈ [V.ref t4, V.ref t5, V.ref p8, V.ref p12, V.ref p15, V.ref t17], Ln K G17 x := fun x hx => by
      have : x = V.ref t4 ∨ x = V.ref t5 ∨ x = V.ref p8 ∨ x = V.ref p12 ∨ x = V.ref p15 ∨ x = V.ref t17 := by simpa using hx
      rcases this with rfl | rfl | rfl | rfl | rfl | rfl <;> assumption
    generalize upd G17 lA (.lst [V.ref t4, V.ref t5, V.ref p8, V.ref p12, V.ref p15, V.ref t17]) = XA at *
    have uA := u17.same sA
    refine ⟨.ref c, rfl, c, L, 6, fuel, rfl, uA, by decide, by decide, fun dz H9 dz0 dz1 u9 b9 => ?_⟩
    have eA9 := b9 _ _ neA.1 neA.2 eA
    obtain ⟨z', rfl⟩ : ∃ z' : Nat, dz = (z' : Int) := ⟨dz.toNat, by omega⟩
    have zl : z' < [V.ref t4, V.ref t5, V.ref p8, V.ref p12, V.ref p15, V.ref t17].length := by show z' < 6; omega
    have hz := List.getElem?_eq_getElem zl
    obtain ⟨A', iA, hA⟩ := ((all _ (List.getElem_mem zl)).mono (tk_same sA)).mono (b9.tk uA)
    exact ⟨lA, _, _, _, rfl, rfl, .of eA9, atI_nat hz, q _ A' H9 iA hA u9 ((b1.trans (but_same (s017.trans sA))).trans b9)⟩
end
end K42

set_option Elab.async false
set_option linter.all false
set_option maxRecDepth 100000
set_option exponentiation.threshold 20000
namespace K42
open PySem PySem.Spec PyProof.Rows L2 Ly Mt El
/-- the data () -/
theorem room65 {k : Nat} {A : Around} (hr : Room k A) : A.units + 65 < cLine := by have := hr.un; omega
def isNil : PyData → Bool
  | .tuple [] => true
  | _ => false
theorem isNil_mat (A : List (List Rat)) : isNil (mD A) = A.isEmpty := by cases A <;> rfl
/-- a row of zeros as long as there are rows -/
def zeroRow : PyData → Bool
  | .tuple ds => ds.any fun z => PyData.eqv z (vD (List.replicate ds.length 0))
  | _ => false
def dueW (way : Nat) (d1 d2 : PyData) : Str :=
  if jMat d1 = false then "matrix" else
  if way = 0 then (if jVec d2 = false then "vector" else if misfit d1 d2 = true then "unlike" else "told") else
  if way = 1 then (if jMat d2 = false then "matrix" else if misfit d1 d2 = true then "unlike" else "told") else
  if way = 2 ∨ isNil d1 = true then "told" else
  if oblong d1 = true then "unlike" else if zeroRow d1 = true then "singular" else "open"
section
variable {P : Program} {w : World} {K : PySem.W.Frag} {mg : Str → Option Value} {base : Heap} {C : Addr}
abbrev s__law_due : Stmt := topS 55
theorem sc__law_due : FnScope ["way", "one", "other"] ["way", "one", "other"] (defScope s__law_due) := ⟨rfl, rfl, rfl, by decide +kernel, rfl, by decide +kernel, by decide +kernel⟩
def sp_due (K : PySem.W.Frag) : Sp := fun vs H Q _ => ∃ (S : Addr → Prop) (way : Nat) (v1 v2 : V) (d1 d2 : PyData), vs = [.int way, v1, v2] ∧ Da K S H v1 d1 ∧ Da K S H v2 d2 ∧ smD d1 ∧ smD d2 ∧ way ≤ 3 ∧ ∀ H', Same H H' → Q (.str (dueW way d1 d2)) H'
set_option maxHeartbeats 1000000 in
theorem ok__law_due {f : Addr} {fd : FuncData} {k : Nat} (F : Fun K "_law_due" "_law_due" s__law_due f fd) (T : Tx K mg C){ki : Nat} (D__law_matrix_is : Def P w K mg base ki "_law_matrix_is" s__law_matrix_is ["found"] (sp_lmat K)) {kj : Nat} (D__law_vector_is : Def P w K mg base kj "_law_vector_is" s__law_vector_is ["found"] (sp_lvec K)) (hk : ki ≤ k) (hj : kj ≤ k) : FnOk P w K mg base CX0 (k + 1) f fd ["way", "one", "other"] (sp_due K) := by
  have nd := sc__law_due.nd
  refine F.ok sc__law_due (fun vs H Q E h => ?_) (fun cdv A outer s H vs Q E hr h => ?_)
  · obtain ⟨_, _, _, _, _, _, rfl, _⟩ := h
    rfl
  · obtain ⟨S, way, v1, v2, d1, d2, rfl, a1, a2, sm1, sm2, w3, q⟩ := h
    refine ⟨_, (pss_cons (ps_if (pt_not (pt_val (pe_def D__law_matrix_is (hr.mono (by omega)) rfl (pa_cons (pv 1) pa_nil))))
        (pss_one (ps_ret pe_str))
        pss_nil)
      (pss_cons (ps_if (pt_cmpR op_eq (pv 0) pe_int (nomark _))
        (pss_cons (ps_if (pt_not (pt_val (pe_def D__law_vector_is (hr.mono (by omega)) rfl (pa_cons (pv 2) pa_nil))))
          (pss_one (ps_ret pe_str))
          pss_nil)
        (pss_one (ps_ret (pe_ifExp (PW.pt (pw_and (pt_cmpR (kop_neD K hr.units) (pv 1) (pe_tup pa_nil) (nomark _)) (pw_and1 (pt_cmpR op_ne (pe_callB (kcall_len K) (by rfl) T.m_len PySem.boot_len (pa_cons (pe_ix (kix_tup K) (pv 1) pe_int (fun _ _ => rfl)) pa_nil)) (pe_callB (kcall_len K) (by rfl) T.m_len PySem.boot_len (pa_cons (pv 2) pa_nil)) (nomark _))))) pe_str pe_str))))
        pss_nil)
      (pss_cons (ps_if (pt_cmpR op_eq (pv 0) pe_int (nomark _))
        (pss_cons (ps_if (pt_not (pt_val (pe_def D__law_matrix_is (hr.mono (by omega)) rfl (pa_cons (pv 2) pa_nil))))
          (pss_one (ps_ret pe_str))
          pss_nil)
        (pss_one (ps_ret (pe_ifExp (PW.pt (pw_and (pt_cmpR (kop_neD K hr.units) (pv 1) (pe_tup pa_nil) (nomark _)) (pw_and1 (pt_cmpR op_ne (pe_callB (kcall_len K) (by rfl) T.m_len PySem.boot_len (pa_cons (pe_ix (kix_tup K) (pv 1) pe_int (fun _ _ => rfl)) pa_nil)) (pe_callB (kcall_len K) (by rfl) T.m_len PySem.boot_len (pa_cons (pv 2) pa_nil)) (nomark _))))) pe_str pe_str))))
        pss_nil)
      (pss_cons (ps_if (PW.pt (pw_or (pt_cmpR op_eq (pv 0) pe_int (nomark _)) (pw_or1 (pt_cmpR (kop_eqD K hr.units) (pv 1) (pe_tup pa_nil) (nomark _)))))
        (pss_one (ps_ret pe_str))
        pss_nil)
      (pss_cons (ps_if (pt_cmpR op_ne (pe_callB (kcall_len K) (by rfl) T.m_len PySem.boot_len (pa_cons (pe_ix (kix_tup K) (pv 1) pe_int (fun _ _ => rfl)) pa_nil)) (pe_callB (kcall_len K) (by rfl) T.m_len PySem.boot_len (pa_cons (pv 1) pa_nil)) (nomark _))
        (pss_one (ps_ret pe_str))
        pss_nil)
      (pss_one (ps_ret (pe_ifExp (pt_cmpR (kop_inDT K (room65 hr)) (pe_op (kop_repTA K) (pe_tup (pa_cons (pe_tup (pa_cons pe_int (pa_cons pe_int pa_nil))) pa_nil)) (pe_callB (kcall_len K) (by rfl) T.m_len PySem.boot_len (pa_cons (pv 1) pa_nil))) (pv 1) (by rfl)) pe_str pe_str)))))))), ?_⟩
    have eqw : ∀ (m : Nat), decide (V.int (way : Nat) = V.int (m : Nat)) = decide (way = m) := fun m => by
      by_cases h : way = m
      · rw [decide_eq_true h, decide_eq_true (by rw [h])]
      · rw [decide_eq_false h, decide_eq_false (fun z => h (by have := V.int.inj z; omega))]
    refine ⟨v1, rfl, v1, d1, rfl, a1.dp, sm1, fun H1 s1 => ⟨jMat d1, rfl, ?_⟩⟩
    cases j1 : jMat d1 with
    | false =>
      refine iteT ?_
      have := q H1 s1
      unfold dueW at this
      rw [if_pos j1] at this
      exact this
    | true =>
    refine iteF ?_
    have nj1 : ¬ jMat d1 = false := fun z => by rw [j1] at z; cases z
    have a11 := Da.mono (fr_same s1) _ a1
    have a21 := Da.mono (fr_same s1) _ a2
    obtain ⟨M, rfl, l48, hlen, w48⟩ := mat_of j1
    have hne : ∀ {H' : Hp}, Same H H' → ∃ a xs, v1 = .ref a ∧ ITup K H' a xs ∧ ImAll K H' xs (M.map vD) := fun s' => mat_inv (Im.mono (tk_same s') _ (a1.im _ (noL_mat M)))
    refine ⟨.int way, rfl, rfl, _, rfl, ?_⟩
    rw [show decide (V.int (way : Nat) = V.int 0) = decide (way = 0) from eqw 0]
    by_cases w0 : way = 0
    · rw [decide_eq_true w0]
      refine iteT ⟨v2, rfl, v2, d2, rfl, a21.dp, sm2, fun H2 s2 => ⟨jVec d2, rfl, ?_⟩⟩
      have s12 := s1.trans s2
      cases j2 : jVec d2 with
      | false =>
        refine iteT ?_
        have := q H2 s12
        unfold dueW at this
        rw [if_neg nj1, if_pos w0, if_pos j2] at this
        exact this
      | true =>
        have nj2 : ¬ jVec d2 = false := fun z => by rw [j2] at z; cases z
        refine iteF ?_
        obtain ⟨t, rfl, t48⟩ := vec_of j2
        have qq : ∀ H', Same H H' → Q (.str (if misfit (mD M) (vD t) = true then "unlike" else "told")) H' := fun H' s' => by
          have := q H' s'
          unfold dueW at this
          rw [if_neg nj1, if_pos w0, if_neg nj2] at this
          exact this
        obtain ⟨a, xs, rfl, ha, hxs⟩ := hne s12
        refine ⟨.ref a, rfl, by show 0 ≤ sizeLine; decide, fun e he => ?_⟩
        have s3 := same_new (o := .tup []) he
        have e3 : SqT K (upd H2 e (.tup [])) e [] := .of upd_same
        generalize upd H2 e (.tup []) = H3 at *
        have s13 := s12.trans s3
        refine ⟨mD M, .tuple [], Da.dp _ (Da.mono (fr_same s13) _ a1), .tup e3 .nil, shaped_mat M, shaped_nilT, ?_⟩
        rw [show PyData.eqv (mD M) (.tuple []) = (M.map vD).isEmpty from eqv_nilT _]
        cases hM : M with
        | nil =>
          refine ⟨false, rfl, iteF (iteF ?_)⟩
          have := qq H3 s13
          rw [hM, mis_as] at this
          exact this
        | cons r rs =>
          have hr0 : M[0]? = some r := by rw [hM]; rfl
          obtain ⟨b, ys, eb, hb, hys⟩ := vec_inv (Im.mono (tk_same s13) _ (a2.im _ (noL_vec t)))
          subst eb
          have ha3 := ha.mono (tk_same s3)
          obtain ⟨y0, hy0, i0⟩ := all_at (ImAll.mono (tk_same s3) _ hxs) hr0
          obtain ⟨c, zs, rfl, hc, hzs⟩ := vec_inv i0
          refine ⟨true, rfl, iteT ⟨.ref a, rfl, a, xs, 0, _, rfl, rfl, ha3.sq, atI_nat (j := 0) hy0, c, zs, rfl, .inr hc.sq, .ref b, rfl, b, ys, rfl, .inr hb.sq, rfl, _, rfl, ?_⟩⟩
          have lz : zs.length = r.length := all_len hzs
          have ly : ys.length = t.length := all_len hys
          have em : misfit (mD M) (vD t) = decide (r.length ≠ t.length) := by
            rw [mis_as, hM]
            show decide (r.length ≠ (t.map rD).length) = _
            rw [List.length_map]
          have q3 := qq H3 s13
          rw [em] at q3
          by_cases el : r.length = t.length
          · rw [show zs.length = ys.length by rw [lz, ly, el]]
            rw [decide_eq_false (fun z => z el)] at q3
            exact iteNS rfl q3
          · have hn : ¬ (V.int (zs.length : Nat) = V.int (ys.length : Nat)) := fun z => el (by have := V.int.inj z; omega)
            rw [decide_eq_true (show r.length ≠ t.length from el)] at q3
            rw [decide_eq_false hn]
            exact iteT q3
    · rw [decide_eq_false w0]
      refine iteF ⟨.int way, rfl, rfl, _, rfl, ?_⟩
      rw [show decide (V.int (way : Nat) = V.int 1) = decide (way = 1) from eqw 1]
      by_cases w1 : way = 1
      · rw [decide_eq_true w1]
        refine iteT ⟨v2, rfl, v2, d2, rfl, a21.dp, sm2, fun H2 s2 => ⟨jMat d2, rfl, ?_⟩⟩
        have s12 := s1.trans s2
        cases j2 : jMat d2 with
        | false =>
          refine iteT ?_
          have := q H2 s12
          unfold dueW at this
          rw [if_neg nj1, if_neg w0, if_pos w1, if_pos j2] at this
          exact this
        | true =>
          have nj2 : ¬ jMat d2 = false := fun z => by rw [j2] at z; cases z
          refine iteF ?_
          obtain ⟨B, rfl, t48, _, _⟩ := mat_of j2
          have qq : ∀ H', Same H H' → Q (.str (if misfit (mD M) (mD B) = true then "unlike" else "told")) H' := fun H' s' => by
            have := q H' s'
            unfold dueW at this
            rw [if_neg nj1, if_neg w0, if_pos w1, if_neg nj2] at this
            exact this
          obtain ⟨a, xs, rfl, ha, hxs⟩ := hne s12
          refine ⟨.ref a, rfl, by show 0 ≤ sizeLine; decide, fun e he => ?_⟩
          have s3 := same_new (o := .tup []) he
          have e3 : SqT K (upd H2 e (.tup [])) e [] := .of upd_same
          generalize upd H2 e (.tup []) = H3 at *
          have s13 := s12.trans s3
          refine ⟨mD M, .tuple [], Da.dp _ (Da.mono (fr_same s13) _ a1), .tup e3 .nil, shaped_mat M, shaped_nilT, ?_⟩
          rw [show PyData.eqv (mD M) (.tuple []) = (M.map vD).isEmpty from eqv_nilT _]
          cases hM : M with
          | nil =>
            refine ⟨false, rfl, iteF (iteF ?_)⟩
            have := qq H3 s13
            rw [hM, mis_as] at this
            exact this
          | cons r rs =>
            have hr0 : M[0]? = some r := by rw [hM]; rfl
            obtain ⟨b, ys, eb, hb, hys⟩ := mat_inv (Im.mono (tk_same s13) _ (a2.im _ (noL_mat B)))
            subst eb
            have ha3 := ha.mono (tk_same s3)
            obtain ⟨y0, hy0, i0⟩ := all_at (ImAll.mono (tk_same s3) _ hxs) hr0
            obtain ⟨c, zs, rfl, hc, hzs⟩ := vec_inv i0
            refine ⟨true, rfl, iteT ⟨.ref a, rfl, a, xs, 0, _, rfl, rfl, ha3.sq, atI_nat (j := 0) hy0, c, zs, rfl, .inr hc.sq, .ref b, rfl, b, ys, rfl, .inr hb.sq, rfl, _, rfl, ?_⟩⟩
            have lz : zs.length = r.length := all_len hzs
            have ly : ys.length = B.length := all_len hys
            have em : misfit (mD M) (mD B) = decide (r.length ≠ B.length) := by
              rw [mis_as, hM]
              show decide (r.length ≠ (B.map vD).length) = _
              rw [List.length_map]
            have q3 := qq H3 s13
            rw [em] at q3
            by_cases el : r.length = B.length
            · rw [show zs.length = ys.length by rw [lz, ly, el]]
              rw [decide_eq_false (fun z => z el)] at q3
              exact iteNS rfl q3
            · have hn : ¬ (V.int (zs.length : Nat) = V.int (ys.length : Nat)) := fun z => el (by have := V.int.inj z; omega)
              rw [decide_eq_true (show r.length ≠ B.length from el)] at q3
              rw [decide_eq_false hn]
              exact iteT q3
      · rw [decide_eq_false w1]
        refine iteF ⟨.int way, rfl, rfl, _, rfl, ?_⟩
        rw [show decide (V.int (way : Nat) = V.int 2) = decide (way = 2) from eqw 2]
        have q0 : ∀ H', Same H H' → Q (.str (if way = 2 ∨ isNil (mD M) = true then "told" else if oblong (mD M) = true then "unlike" else if zeroRow (mD M) = true then "singular" else "open")) H' := fun H' s' => by
          have := q H' s'
          unfold dueW at this
          rw [if_neg nj1, if_neg w0, if_neg w1] at this
          exact this
        by_cases w2 : way = 2
        · rw [decide_eq_true w2]
          have := q0 H1 s1
          rw [if_pos (.inl w2)] at this
          exact iteT (iteT this)
        · rw [decide_eq_false w2]
          obtain ⟨a, xs, rfl, ha, hxs⟩ := hne s1
          refine iteF ⟨.ref a, rfl, by show 0 ≤ sizeLine; decide, fun e he => ?_⟩
          have s3 := same_new (o := .tup []) he
          have e3 : SqT K (upd H1 e (.tup [])) e [] := .of upd_same
          generalize upd H1 e (.tup []) = H3 at *
          have s13 := s1.trans s3
          refine ⟨mD M, .tuple [], Da.dp _ (Da.mono (fr_same s13) _ a1), .tup e3 .nil, shaped_mat M, shaped_nilT, ?_⟩
          rw [show PyData.eqv (mD M) (.tuple []) = (M.map vD).isEmpty from eqv_nilT _]
          cases hM : M with
          | nil =>
            refine ⟨true, rfl, iteT ?_⟩
            have := q0 H3 s13
            rw [if_pos (.inr (by rw [hM]; rfl))] at this
            exact this
          | cons r rs =>
            refine ⟨false, rfl, iteF ?_⟩
            have nn : ¬ (way = 2 ∨ isNil (mD M) = true) := fun z => by
              rcases z with z | z
              · exact w2 z
              · rw [isNil_mat, hM] at z; cases z
            have hr0 : M[0]? = some r := by rw [hM]; rfl
            have ha3 := ha.mono (tk_same s3)
            have lx : xs.length = M.length := all_len hxs
            obtain ⟨y0, hy0, i0⟩ := all_at (ImAll.mono (tk_same s3) _ hxs) hr0
            obtain ⟨c, zs, rfl, hc, hzs⟩ := vec_inv i0
            refine ⟨.ref a, rfl, a, xs, 0, _, rfl, rfl, ha3.sq, atI_nat (j := 0) hy0, c, zs, rfl, .inr hc.sq, .ref a, rfl, a, xs, rfl, .inr ha3.sq, rfl, _, rfl, ?_⟩
            have lz : zs.length = r.length := all_len hzs
            have em : oblong (mD M) = decide (r.length ≠ M.length) := by
              rw [hM]
              show decide ((r.map rD).length ≠ ((vD r) :: (rs.map vD)).length) = _
              rw [List.length_map, List.length_cons, List.length_map, List.length_cons]
            by_cases el : r.length = M.length
            · rw [show zs.length = xs.length by rw [lz, lx, el]]
              refine iteNS rfl ?_
              refine ⟨by show 2 ≤ sizeLine; decide, fun t4 ht4 => ⟨by show 1 ≤ sizeLine; decide, fun t5 ht5 => ⟨.ref a, rfl, a, xs, rfl, .inr ?_, ?_⟩⟩⟩
              · exact (ha3.mono (tk_same ((same_new ht4).trans (same_new ht5)))).sq
              have s4 := same_new (o := .tup [.int 0, .int 1]) ht4
              have i4 : Im K (upd H3 t4 (.tup [.int 0, .int 1])) (.ref t4) (rD 0) := rat_mk (q := 0) (.inl upd_same)
              generalize upd H3 t4 (.tup [.int 0, .int 1]) = G4 at *
              have s5 := same_new (o := .tup [V.ref t4]) ht5
              have i5 : ITup K (upd G4 t5 (.tup [V.ref t4])) t5 [V.ref t4] := .inl upd_same
              generalize upd G4 t5 (.tup [V.ref t4]) = G5 at *
              refine rep_any i5 (by omega) fun p6 G6 s6 i6 => ⟨.ref a, rfl, ?_⟩
              have s16 := ((s13.trans s4).trans s5).trans s6
              have iz : Im K G6 (.ref p6) (vD (List.replicate xs.length 0)) := .tup i6 (all_rep (f := rD) (Im.mono (tk_same (s5.trans s6)) _ i4) xs.length)
              refine ⟨vD (List.replicate xs.length 0), M.map vD, Im.dp _ iz, Da.dp _ (Da.mono (fr_same s16) _ a1), shaped_vec _, shaped_mat M, ?_⟩
              have q6 := q0 G6 s16
              rw [if_neg nn, em, decide_eq_false (fun z => z el)] at q6
              have ez : zeroRow (mD M) = (M.map vD).any fun z => PyData.eqv z (vD (List.replicate xs.length 0)) := by
                show (M.map vD).any (fun z => PyData.eqv z (vD (List.replicate (M.map vD).length 0))) = _
                rw [List.length_map, lx]
              rw [ez] at q6
              cases hz : (M.map vD).any fun z => PyData.eqv z (vD (List.replicate xs.length 0)) with
              | true =>
                rw [hz] at q6
                exact ⟨true, rfl, iteT q6⟩
              | false =>
                rw [hz] at q6
                exact ⟨false, rfl, iteF q6⟩
            · have hn : ¬ (V.int (zs.length : Nat) = V.int (xs.length : Nat)) := fun z => el (by have := V.int.inj z; omega)
              rw [decide_eq_false hn]
              have q3 := q0 H3 s13
              rw [if_neg nn, em, decide_eq_true (show r.length ≠ M.length from el)] at q3
              exact iteT q3
end
end K42

set_option Elab.async false
set_option linter.all false
set_option maxRecDepth 100000
set_option exponentiation.threshold 20000
namespace K42
open PySem PySem.Spec PyProof.Rows L2 Ly Mt El
/-- what is asked of the data -/
def Okw (way : Nat) (d1 d2 : PyData) : Prop :=
  (way = 0 → jMat d1 = true → jVec d2 = true → misfit d1 d2 = false → Solv d1 d2) ∧
  (way = 1 → jMat d1 = true → jMat d2 = true → misfit d1 d2 = false → Mult d1 d2) ∧
  (way = 2 → jMat d1 = true → Rank d1) ∧
  (way = 3 → jMat d1 = true → oblong d1 = false → Inver d1)
/-- the word that is told -/
inductive Wd (way : Nat) (d1 d2 : PyData) : Str → Prop
  | m1 : jMat d1 = false → Wd way d1 d2 "matrix"
  | v0 : way = 0 → jMat d1 = true → jVec d2 = false → Wd way d1 d2 "vector"
  | u0 : way = 0 → jMat d1 = true → jVec d2 = true → misfit d1 d2 = true → Wd way d1 d2 "unlike"
  | t0 : way = 0 → jMat d1 = true → jVec d2 = true → misfit d1 d2 = false → Wd way d1 d2 "told"
  | m2 : way = 1 → jMat d1 = true → jMat d2 = false → Wd way d1 d2 "matrix"
  | u1 : way = 1 → jMat d1 = true → jMat d2 = true → misfit d1 d2 = true → Wd way d1 d2 "unlike"
  | t1 : way = 1 → jMat d1 = true → jMat d2 = true → misfit d1 d2 = false → Wd way d1 d2 "told"
  | t2 : way = 2 → jMat d1 = true → Wd way d1 d2 "told"
  | u3 : way = 3 → jMat d1 = true → oblong d1 = true → Wd way d1 d2 "unlike"
  | s3 (A : List (List Rat)) : way = 3 → jMat d1 = true → oblong d1 = false → d1 = mD A → (solved A A.length).length < A.length → Wd way d1 d2 "singular"
  | t3 (A : List (List Rat)) : way = 3 → jMat d1 = true → oblong d1 = false → d1 = mD A → (solved A A.length).length = A.length → Wd way d1 d2 "told"
section
variable {P : Program} {w : World} {K : PySem.W.Frag} {mg : Str → Option Value} {base : Heap} {C : Addr}
abbrev s__law_word : Stmt := topS 54
theorem sc__law_word : FnScope ["way", "one", "other", "found", "error"] ["way", "one", "other"] (defScope s__law_word) := ⟨rfl, rfl, rfl, by decide +kernel, rfl, by decide +kernel, by decide +kernel⟩
def sp_word (K : PySem.W.Frag) : Sp := fun vs H Q _ => ∃ (S : Addr → Prop) (way : Nat) (v1 v2 : V) (d1 d2 : PyData), vs = [.int way, v1, v2] ∧ Da K S H v1 d1 ∧ Da K S H v2 d2 ∧ way ≤ 3 ∧ Okw way d1 d2 ∧ ∀ x H', Same H H' → Wd way d1 d2 x → Q (.str x) H'
set_option maxHeartbeats 4000000 in
theorem ok__law_word {f : Addr} {fd : FuncData} {k : Nat} (F : Fun K "_law_word" "_law_word" s__law_word f fd) (T : Tx K mg C){er : Er} (TE : Tr K mg er) {ki : Nat} (D_made_of : DefX P w K mg base ki "made_of" s_made_of ["rows", "target"] (sp_made_of K er)) {kj : Nat} (D_times_matrix : DefX P w K mg base kj "times_matrix" s_times_matrix ["one", "other"] (sp_times_matrix K er)) {kl : Nat} (D_rank : DefX P w K mg base kl "rank" s_rank ["rows"] (sp_rank K er)) {kn : Nat} (D_inverse : DefX P w K mg base kn "inverse" s_inverse ["rows"] (sp_inverse K er)) (hk : ki ≤ k) (hj : kj ≤ k) (hl : kl ≤ k) (hn : kn ≤ k) : FnOk P w K mg base CX0 (k + 1) f fd ["way", "one", "other"] (sp_word K) := by
  have nd := sc__law_word.nd
  refine F.ok sc__law_word (fun vs H Q E h => ?_) (fun cdv A outer s H vs Q E hr h => ?_)
  · obtain ⟨_, _, _, _, _, _, rfl, _⟩ := h
    rfl
  · obtain ⟨S, way, v1, v2, d1, d2, rfl, a1, a2, w3, ok, q⟩ := h
    refine ⟨_, (pss_cons (ps_set (i := 3) nd rfl (.inl rfl) pe_str)
      (pss_cons (ps_try_list rfl rfl takes0 (fun W pn xe tk _ => (pss_one (ps_if (pt_cmpR op_eq (pv 0) pe_int (nomark _))
          (pss_one (ps_expr (pe_defX D_made_of tk (hr.mono (by omega)) rfl (pa_cons (pv 1) (pa_cons (pv 2) pa_nil)))))
          (pss_one (ps_if (pt_cmpR op_eq (pv 0) pe_int (nomark _))
            (pss_one (ps_expr (pe_defX D_times_matrix tk (hr.mono (by omega)) rfl (pa_cons (pv 1) (pa_cons (pv 2) pa_nil)))))
            (pss_one (ps_if (pt_cmpR op_eq (pv 0) pe_int (nomark _))
              (pss_one (ps_expr (pe_defX D_rank tk (hr.mono (by omega)) rfl (pa_cons (pv 1) pa_nil))))
              (pss_one (ps_expr (pe_defX D_inverse tk (hr.mono (by omega)) rfl (pa_cons (pv 1) pa_nil)))))))))))
        (.as (i := 4) nd rfl rfl ⟨rfl, by decide, .inl TE.g_BadVector⟩ (fun a oe cls d pn hz hf => (pss_one (ps_set (i := 3) nd rfl (.inl rfl) (pe_ifExp (pt_val (pe_callB (call_isX hz hf) (by rfl) T.m_isinstance (by decide +kernel) (pa_cons (pv 4) (pa_cons (pe_glob (v := .ref er.t) rfl TE.g_TreeError rfl) pa_nil)))) pe_str pe_str))))
        (.as (i := 4) nd rfl rfl ⟨rfl, by decide, .inl TE.g_Unlike⟩ (fun a oe cls d pn hz hf => (pss_one (ps_set (i := 3) nd rfl (.inl rfl) (pe_ifExp (pt_val (pe_callB (call_isX hz hf) (by rfl) T.m_isinstance (by decide +kernel) (pa_cons (pv 4) (pa_cons (pe_glob (v := .ref er.t) rfl TE.g_TreeError rfl) pa_nil)))) pe_str pe_str))))
        (.as (i := 4) nd rfl rfl ⟨rfl, by decide, .inl TE.g_BadMatrix⟩ (fun a oe cls d pn hz hf => (pss_one (ps_set (i := 3) nd rfl (.inl rfl) (pe_ifExp (pt_val (pe_callB (call_isX hz hf) (by rfl) T.m_isinstance (by decide +kernel) (pa_cons (pv 4) (pa_cons (pe_glob (v := .ref er.t) rfl TE.g_TreeError rfl) pa_nil)))) pe_str pe_str))))
        (.as (i := 4) nd rfl rfl ⟨rfl, by decide, .inl TE.g_Singular⟩ (fun a oe cls d pn hz hf => (pss_one (ps_set (i := 3) nd rfl (.inl rfl) (pe_ifExp (pt_val (pe_callB (call_isX hz hf) (by rfl) T.m_isinstance (by decide +kernel) (pa_cons (pv 4) (pa_cons (pe_bltn (v := .ty "ValueError") (u := .type "ValueError") (by rfl) TE.m_ValueError (by decide +kernel) rfl) pa_nil)))) pe_str pe_str))))
        (.cons ⟨rfl, by decide, .inl TE.g_TreeError⟩ (fun a oe cls d pn hz hf => (pss_one (ps_set (i := 3) nd rfl (.inl rfl) pe_str)))
        .nil))))))
      (pss_one (ps_ret (pv 3))))), ?_⟩
    have eqw : ∀ (m : Nat), decide (V.int (way : Nat) = V.int (m : Nat)) = decide (way = m) := fun m => by
      by_cases h : way = m
      · rw [decide_eq_true h, decide_eq_true (by rw [h])]
      · rw [decide_eq_false h, decide_eq_false (fun z => h (by have := V.int.inj z; omega))]
    refine ⟨.int way, rfl, rfl, _, rfl, ?_⟩
    rw [show decide (V.int (way : Nat) = V.int 0) = decide (way = 0) from eqw 0]
    by_cases w0 : way = 0
    · rw [decide_eq_true w0]
      refine iteT ⟨v1, rfl, v2, rfl, S, v1, v2, d1, d2, rfl, a1, a2, ok.1 w0, fun H' s' => ⟨fun j1 => ?_, fun j1 j2 => ?_, fun j1 j2 mf => ?_, fun p A' t j1 j2 e1 e2 mf ip => ⟨.str "told", rfl, q "told" H' s' (.t0 w0 j1 j2 mf)⟩⟩⟩
      · refine ⟨false, TE.e_mv, fun z => Bool.noConfusion z, fun _ => ⟨false, TE.e_mu, fun z => Bool.noConfusion z, fun _ => ⟨true, TE.e_mm, fun _ a na => ?_, fun z => Bool.noConfusion z⟩⟩⟩
        exact ⟨.ref a, rfl, er.m, .ref er.t, .ref er.t, true, rfl, rfl, TE.i_m, rfl, fun u r => r, TE.k_m, true, rfl, iteT ⟨.str "matrix", rfl, q "matrix" H' s' (.m1 j1)⟩⟩
      · refine ⟨true, TE.e_vv, fun _ a na => ?_, fun z => Bool.noConfusion z⟩
        exact ⟨.ref a, rfl, er.v, .ref er.t, .ref er.t, true, rfl, rfl, TE.i_v, rfl, fun u r => r, TE.k_v, true, rfl, iteT ⟨.str "vector", rfl, q "vector" H' s' (.v0 w0 j1 j2)⟩⟩
      · refine ⟨false, TE.e_uv, fun z => Bool.noConfusion z, fun _ => ⟨true, TE.e_uu, fun _ a na => ?_, fun z => Bool.noConfusion z⟩⟩
        exact ⟨.ref a, rfl, er.u, .ref er.t, .ref er.t, true, rfl, rfl, TE.i_u, rfl, fun u r => r, TE.k_u, true, rfl, iteT ⟨.str "unlike", rfl, q "unlike" H' s' (.u0 w0 j1 j2 mf)⟩⟩
    · rw [decide_eq_false w0]
      refine iteF ⟨.int way, rfl, rfl, _, rfl, ?_⟩
      rw [show decide (V.int (way : Nat) = V.int 1) = decide (way = 1) from eqw 1]
      by_cases w1 : way = 1
      · rw [decide_eq_true w1]
        refine iteT ⟨v1, rfl, v2, rfl, S, v1, v2, d1, d2, rfl, a1, a2, ok.2.1 w1, fun H' s' => ⟨fun j1 => ?_, fun j1 j2 => ?_, fun j1 j2 mf => ?_, fun p A' t j1 j2 e1 e2 mf ip => ⟨.str "told", rfl, q "told" H' s' (.t1 w1 j1 j2 mf)⟩⟩⟩
        · refine ⟨false, TE.e_mv, fun z => Bool.noConfusion z, fun _ => ⟨false, TE.e_mu, fun z => Bool.noConfusion z, fun _ => ⟨true, TE.e_mm, fun _ a na => ?_, fun z => Bool.noConfusion z⟩⟩⟩
          exact ⟨.ref a, rfl, er.m, .ref er.t, .ref er.t, true, rfl, rfl, TE.i_m, rfl, fun u r => r, TE.k_m, true, rfl, iteT ⟨.str "matrix", rfl, q "matrix" H' s' (.m1 j1)⟩⟩
        · refine ⟨false, TE.e_mv, fun z => Bool.noConfusion z, fun _ => ⟨false, TE.e_mu, fun z => Bool.noConfusion z, fun _ => ⟨true, TE.e_mm, fun _ a na => ?_, fun z => Bool.noConfusion z⟩⟩⟩
          exact ⟨.ref a, rfl, er.m, .ref er.t, .ref er.t, true, rfl, rfl, TE.i_m, rfl, fun u r => r, TE.k_m, true, rfl, iteT ⟨.str "matrix", rfl, q "matrix" H' s' (.m2 w1 j1 j2)⟩⟩
        · refine ⟨false, TE.e_uv, fun z => Bool.noConfusion z, fun _ => ⟨true, TE.e_uu, fun _ a na => ?_, fun z => Bool.noConfusion z⟩⟩
          exact ⟨.ref a, rfl, er.u, .ref er.t, .ref er.t, true, rfl, rfl, TE.i_u, rfl, fun u r => r, TE.k_u, true, rfl, iteT ⟨.str "unlike", rfl, q "unlike" H' s' (.u1 w1 j1 j2 mf)⟩⟩
      · rw [decide_eq_false w1]
        refine iteF ⟨.int way, rfl, rfl, _, rfl, ?_⟩
        rw [show decide (V.int (way : Nat) = V.int 2) = decide (way = 2) from eqw 2]
        by_cases w2 : way = 2
        · rw [decide_eq_true w2]
          refine iteT ⟨v1, rfl, S, v1, d1, rfl, a1, ok.2.2.1 w2, fun H' s' => ⟨fun j1 => ?_, fun A' j1 e1 => ⟨.str "told", rfl, q "told" H' s' (.t2 w2 j1)⟩⟩⟩
          · refine ⟨false, TE.e_mv, fun z => Bool.noConfusion z, fun _ => ⟨false, TE.e_mu, fun z => Bool.noConfusion z, fun _ => ⟨true, TE.e_mm, fun _ a na => ?_, fun z => Bool.noConfusion z⟩⟩⟩
            exact ⟨.ref a, rfl, er.m, .ref er.t, .ref er.t, true, rfl, rfl, TE.i_m, rfl, fun u r => r, TE.k_m, true, rfl, iteT ⟨.str "matrix", rfl, q "matrix" H' s' (.m1 j1)⟩⟩
        · rw [decide_eq_false w2]
          have w33 : way = 3 := by omega
          refine iteF ⟨v1, rfl, S, v1, d1, rfl, a1, ok.2.2.2 w33, fun H' s' => ⟨fun j1 => ?_, fun j1 ob => ?_, fun A' j1 e1 ob lt => ?_, fun p A' j1 e1 ob eq ip => ⟨.str "told", rfl, q "told" H' s' (.t3 A' w33 j1 ob e1 eq)⟩⟩⟩
          · refine ⟨false, TE.e_mv, fun z => Bool.noConfusion z, fun _ => ⟨false, TE.e_mu, fun z => Bool.noConfusion z, fun _ => ⟨true, TE.e_mm, fun _ a na => ?_, fun z => Bool.noConfusion z⟩⟩⟩
            exact ⟨.ref a, rfl, er.m, .ref er.t, .ref er.t, true, rfl, rfl, TE.i_m, rfl, fun u r => r, TE.k_m, true, rfl, iteT ⟨.str "matrix", rfl, q "matrix" H' s' (.m1 j1)⟩⟩
          · refine ⟨false, TE.e_uv, fun z => Bool.noConfusion z, fun _ => ⟨true, TE.e_uu, fun _ a na => ?_, fun z => Bool.noConfusion z⟩⟩
            exact ⟨.ref a, rfl, er.u, .ref er.t, .ref er.t, true, rfl, rfl, TE.i_u, rfl, fun u r => r, TE.k_u, true, rfl, iteT ⟨.str "unlike", rfl, q "unlike" H' s' (.u3 w33 j1 ob)⟩⟩
          · refine ⟨false, TE.e_sv, fun z => Bool.noConfusion z, fun _ => ⟨false, TE.e_su, fun z => Bool.noConfusion z, fun _ => ⟨false, TE.e_sm, fun z => Bool.noConfusion z, fun _ => ⟨true, TE.e_ss, fun _ a na => ?_, fun z => Bool.noConfusion z⟩⟩⟩⟩
            exact ⟨.ref a, rfl, er.s, .ty "ValueError", .type "ValueError", true, rfl, rfl, TE.i_s, rfl, fun u r => r, TE.k_s, true, rfl, iteT ⟨.str "singular", rfl, q "singular" H' s' (.s3 A' w33 j1 ob e1 lt)⟩⟩

theorem mD_inj {A B : List (List Rat)} (h : mD A = mD B) : A = B := by
  have h2 : A.map vD = B.map vD := by injection h
  exact List.map_inj_right (f := vD) (fun x y e => vD_inj e) |>.mp h2
theorem rat_eqv {x y : Rat} (h : PyData.eqv (rD x) (rD y) = true) : x = y := by
  have h2 : x.num = y.num ∧ (x.den : Int) = (y.den : Int) := by simpa [rD, PyData.eqv, PyData.eqvAll] using h
  exact Rat.ext h2.1 (by omega)
theorem rats_eqv : ∀ {r t : List Rat}, PyData.eqvAll (r.map rD) (t.map rD) = true → r = t
  | [], [], _ => rfl
  | [], _ :: _, h => by simp [PyData.eqvAll] at h
  | _ :: _, [], h => by simp [PyData.eqvAll] at h
  | x :: r, y :: t, h => by
    have h2 : PyData.eqv (rD x) (rD y) = true ∧ PyData.eqvAll (r.map rD) (t.map rD) = true := by
      simpa [PyData.eqvAll] using h
    rw [rat_eqv h2.1, rats_eqv h2.2]
theorem vec_eqv {r t : List Rat} (h : PyData.eqv (vD r) (vD t) = true) : r = t := rats_eqv (by simpa [vD, PyData.eqv] using h)
theorem jMat_square {A : List (List Rat)} {way : Nat} (ob : oblong (mD A) = false) (nn : ¬ (way = 2 ∨ isNil (mD A) = true)) (hlen : ∀ r ∈ A, r.length = width A) : ∀ r ∈ A, r.length = A.length := by
  cases A with
  | nil => intro r hr; simp at hr
  | cons r0 A =>
    have em : decide ((r0.map rD).length ≠ ((vD r0) :: (A.map vD)).length) = false := ob
    rw [List.length_map, List.length_cons, List.length_map] at em
    have h0 := of_decide_eq_false em
    intro r hr
    rw [hlen r hr, List.length_cons]
    show r0.length = _
    exact Classical.byContradiction h0
theorem jMat_isNil {A : List (List Rat)} : isNil (mD A) = true → A = [] := fun h => by
  rw [isNil_mat] at h
  cases A with
  | nil => rfl
  | cons _ _ => cases h
theorem zero_in {A : List (List Rat)} (h : zeroRow (mD A) = true) : List.replicate A.length 0 ∈ A := by
  have h2 : ((A.map vD).any fun z => PyData.eqv z (vD (List.replicate (A.map vD).length 0))) = true := h
  rw [List.length_map] at h2
  obtain ⟨z, hz, e⟩ := List.any_eq_true.mp h2
  obtain ⟨r, hr, rfl⟩ := List.mem_map.mp hz
  have := vec_eqv e
  rw [← this]; exact hr
/-- the word agrees with what is due -/
theorem wd_ok {way : Nat} {d1 d2 : PyData} {x : Str} (w3 : way ≤ 3) (h : Wd way d1 d2 x) : if dueW way d1 d2 = "open" then (x = "told" ∨ x = "singular") else x = dueW way d1 d2 := by
  have fin : ∀ y : Str, y ≠ "open" → dueW way d1 d2 = y → x = y → if dueW way d1 d2 = "open" then (x = "told" ∨ x = "singular") else x = dueW way d1 d2 := fun y hy e ex => by
    rw [e, if_neg hy]; exact ex
  have opn : dueW way d1 d2 = "open" → (x = "told" ∨ x = "singular") → if dueW way d1 d2 = "open" then (x = "told" ∨ x = "singular") else x = dueW way d1 d2 := fun e ex => by
    rw [if_pos e]; exact ex
  have nj : jMat d1 = true → ¬ jMat d1 = false := fun j1 z => by rw [j1] at z; cases z
  cases h with
  | m1 j1 => exact fin "matrix" (by decide) (by unfold dueW; rw [if_pos j1]) rfl
  | v0 w0 j1 j2 => exact fin "vector" (by decide) (by unfold dueW; rw [if_neg (nj j1), if_pos w0, if_pos j2]) rfl
  | u0 w0 j1 j2 mf => exact fin "unlike" (by decide) (by unfold dueW; rw [if_neg (nj j1), if_pos w0, j2, mf]; rfl) rfl
  | t0 w0 j1 j2 mf => exact fin "told" (by decide) (by unfold dueW; rw [if_neg (nj j1), if_pos w0, j2, mf]; rfl) rfl
  | m2 w1 j1 j2 => exact fin "matrix" (by decide) (by unfold dueW; rw [if_neg (nj j1), if_neg (show ¬ way = 0 by omega), if_pos w1, if_pos j2]) rfl
  | u1 w1 j1 j2 mf => exact fin "unlike" (by decide) (by unfold dueW; rw [if_neg (nj j1), if_neg (show ¬ way = 0 by omega), if_pos w1, j2, mf]; rfl) rfl
  | t1 w1 j1 j2 mf => exact fin "told" (by decide) (by unfold dueW; rw [if_neg (nj j1), if_neg (show ¬ way = 0 by omega), if_pos w1, j2, mf]; rfl) rfl
  | t2 w2 j1 => exact fin "told" (by decide) (by unfold dueW; rw [if_neg (nj j1), if_neg (show ¬ way = 0 by omega), if_neg (show ¬ way = 1 by omega), if_pos (.inl w2)]) rfl
  | u3 w33 j1 ob =>
    have nn : ¬ (way = 2 ∨ isNil d1 = true) := fun z => by
      rcases z with z | z
      · omega
      · obtain ⟨A, rfl, _⟩ := mat_of j1
        rw [jMat_isNil z] at ob
        cases ob
    exact fin "unlike" (by decide) (by unfold dueW; rw [if_neg (nj j1), if_neg (show ¬ way = 0 by omega), if_neg (show ¬ way = 1 by omega), if_neg nn, if_pos ob]) rfl
  | s3 A w33 j1 ob e lt =>
    subst e
    have nn : ¬ (way = 2 ∨ isNil (mD A) = true) := fun z => by
      rcases z with z | z
      · omega
      · rw [jMat_isNil z] at lt
        simp at lt
    have no : ¬ oblong (mD A) = true := by rw [ob]; decide
    cases hz : zeroRow (mD A) with
    | true => exact fin "singular" (by decide) (by unfold dueW; rw [if_neg (nj j1), if_neg (show ¬ way = 0 by omega), if_neg (show ¬ way = 1 by omega), if_neg nn, if_neg no, if_pos hz]) rfl
    | false => exact opn (by unfold dueW; rw [if_neg (nj j1), if_neg (show ¬ way = 0 by omega), if_neg (show ¬ way = 1 by omega), if_neg nn, if_neg no, hz]; rfl) (.inr rfl)
  | t3 A w33 j1 ob e eq =>
    subst e
    have no : ¬ oblong (mD A) = true := by rw [ob]; decide
    by_cases nn : way = 2 ∨ isNil (mD A) = true
    · exact fin "told" (by decide) (by unfold dueW; rw [if_neg (nj j1), if_neg (show ¬ way = 0 by omega), if_neg (show ¬ way = 1 by omega), if_pos nn]) rfl
    · cases hz : zeroRow (mD A) with
      | true =>
        exfalso
        obtain ⟨B, eB, l48, hlen, w48⟩ := mat_of j1
        have eAB := mD_inj eB
        subst eAB
        have ht := jMat_square ob nn hlen
        have := zero_short (rows := A) (n := A.length) ht (zero_in hz)
        omega
      | false => exact opn (by unfold dueW; rw [if_neg (nj j1), if_neg (show ¬ way = 0 by omega), if_neg (show ¬ way = 1 by omega), if_neg nn, if_neg no, hz]; rfl) (.inl rfl)
abbrev s__law_right : Stmt := topS 56
theorem sc__law_right : FnScope ["way", "one", "other", "due", "found"] ["way", "one", "other"] (defScope s__law_right) := ⟨rfl, rfl, rfl, by decide +kernel, rfl, by decide +kernel, by decide +kernel⟩
def sp_right (K : PySem.W.Frag) : Sp := fun vs H Q _ => ∃ (S : Addr → Prop) (way : Nat) (v1 v2 : V) (d1 d2 : PyData), vs = [.int way, v1, v2] ∧ Da K S H v1 d1 ∧ Da K S H v2 d2 ∧ smD d1 ∧ smD d2 ∧ way ≤ 3 ∧ Okw way d1 d2 ∧ ∀ H', Same H H' → Q (.bl true) H'
theorem ok__law_right {f : Addr} {fd : FuncData} {k : Nat} (F : Fun K "_law_right" "_law_right" s__law_right f fd) (T : Tx K mg C){ki : Nat} (D__law_due : Def P w K mg base ki "_law_due" s__law_due ["way", "one", "other"] (sp_due K)) {kj : Nat} (D__law_word : Def P w K mg base kj "_law_word" s__law_word ["way", "one", "other"] (sp_word K)) (hk : ki ≤ k) (hj : kj ≤ k) : FnOk P w K mg base CX0 (k + 1) f fd ["way", "one", "other"] (sp_right K) := by
  have nd := sc__law_right.nd
  refine F.ok sc__law_right (fun vs H Q E h => ?_) (fun cdv A outer s H vs Q E hr h => ?_)
  · obtain ⟨_, _, _, _, _, _, rfl, _⟩ := h
    rfl
  · obtain ⟨S, way, v1, v2, d1, d2, rfl, a1, a2, s1, s2, w3, ok, q⟩ := h
    refine ⟨_, (pss_cons (ps_par (i := 3) (j := 4) (by rfl) nd rfl rfl (by decide) rfl rfl (pa_cons (pe_def D__law_due (hr.mono (by omega)) rfl (pa_cons (pv 0) (pa_cons (pv 1) (pa_cons (pv 2) pa_nil)))) (pa_cons (pe_def D__law_word (hr.mono (by omega)) rfl (pa_cons (pv 0) (pa_cons (pv 1) (pa_cons (pv 2) pa_nil)))) pa_nil)) (by rfl))
      (pss_cons (ps_if (pt_cmpR op_eq (pv 3) pe_str (nomark _))
        (pss_one (ps_ret (pe_cmpR (kop_in K) (pv 4) (pe_tup (pa_cons pe_str (pa_cons pe_str pa_nil))) (by rfl))))
        pss_nil)
      (pss_one (ps_ret (pe_cmpR op_eq (pv 4) (pv 3) (nomark _)))))), ?_⟩
    refine ⟨.int way, rfl, v1, rfl, v2, rfl, S, way, v1, v2, d1, d2, rfl, a1, a2, s1, s2, w3, fun H1 sm1 => ?_⟩
    refine ⟨.int way, rfl, v1, rfl, v2, rfl, S, way, v1, v2, d1, d2, rfl, Da.mono (fr_same sm1) _ a1, Da.mono (fr_same sm1) _ a2, w3, ok, fun x H2 sm2 wd => ⟨_, _, rfl, ?_⟩⟩
    have h := wd_ok w3 wd
    have sm := sm1.trans sm2
    refine ⟨.str (dueW way d1 d2), rfl, rfl, _, rfl, ?_⟩
    by_cases ho : dueW way d1 d2 = "open"
    · rw [if_pos ho] at h
      rw [decide_eq_true (show V.str (dueW way d1 d2) = V.str "open" by rw [ho])]
      refine iteT ⟨.str x, rfl, by show 2 ≤ sizeLine; decide, fun t ht => ⟨t, [.str "told", .str "singular"], rfl, .inr (.of upd_same), rfl, rfl, ?_⟩⟩
      have e : inV (.str x) [.str "told", .str "singular"] = true := by
        rcases h with rfl | rfl <;> decide
      show Q (.bl (inV (.str x) [.str "told", .str "singular"])) _
      rw [e]
      exact q _ (sm.trans (same_new ht))
    · rw [if_neg ho] at h
      rw [decide_eq_false (show ¬ V.str (dueW way d1 d2) = V.str "open" from fun z => ho (V.str.inj z))]
      refine iteF ⟨.str x, rfl, .str (dueW way d1 d2), rfl, rfl, ?_⟩
      rw [decide_eq_true (show V.str x = V.str (dueW way d1 d2) by rw [h])]
      exact q _ sm
end
end K42

set_option Elab.async false
set_option linter.all false
set_option maxRecDepth 100000
set_option exponentiation.threshold 20000
namespace K42
open PySem PySem.Spec PyProof.Rows L2 Ly Mt El
theorem sc_of {s : Int} {E : Nat} {r : List Rat} (h : ∀ x ∈ r, Sn s E x) : Sc s E r := fun q => by
  by_cases hq : q < r.length
  · exact h _ (List.mem_of_getElem? (get_fn hq))
  · rw [fn_none (by omega)]; exact sn_zero s E
theorem sn_of {s : Int} {E : Nat} {r : List Rat} (h : Sc s E r) : ∀ x ∈ r, Sn s E x := fun x hx => by
  obtain ⟨q, rfl⟩ := fn_mem hx
  exact h q
theorem sn_bd {s : Int} {E N : Nat} {x : Rat} (h : Sn s E x) (s0 : s ≠ 0) (sE : s.natAbs ≤ E) (hE : E < 2 ^ N) : Bd N N x := by
  obtain ⟨z, ez, zE⟩ := h
  exact bd_of (by rw [Rat.mul_comm]; exact ez) s0 (by omega) (by omega)
theorem dot_sn {a s : Int} {F E : Nat} : ∀ {xs ys : List Rat}, (∀ x ∈ xs, Sn a F x) → (∀ y ∈ ys, Sn s E y) → Sn (a * s) (xs.length * (F * E)) (dot xs ys)
  | [], ys, _, _ => by rw [dot_nil]; exact sn_zero _ _
  | x :: xs, [], _, _ => by rw [dot_nil2]; exact sn_zero _ _
  | x :: xs, y :: ys, h, k => by
    obtain ⟨z1, e1, b1⟩ := h x (List.mem_cons_self ..)
    obtain ⟨z2, e2, b2⟩ := k y (List.mem_cons_self ..)
    obtain ⟨z3, e3, b3⟩ := dot_sn (xs := xs) (ys := ys) (fun x hx => h x (List.mem_cons_of_mem _ hx)) (fun x hx => k x (List.mem_cons_of_mem _ hx))
    refine ⟨z1 * z2 + z3, ?_, ?_⟩
    · show ((a * s : Int) : Rat) * (x * y + dot xs ys) = _
      rw [Rat.intCast_mul] at e3
      rw [Rat.intCast_mul, Rat.intCast_add, Rat.intCast_mul, ← e1, ← e2, ← e3]; grind
    · have h1 : (z1 * z2).natAbs ≤ F * E := by rw [Int.natAbs_mul]; exact Nat.mul_le_mul b1 b2
      have h2 := Int.natAbs_add_le (z1 * z2) z3
      have h3 : (x :: xs).length * (F * E) = xs.length * (F * E) + F * E := by rw [List.length_cons, Nat.succ_mul]
      rw [h3]; omega
theorem sc_vm {a s : Int} {F E n B : Nat} {ws : List Rat} {A : List (List Rat)} (hn : ∀ r ∈ A, r.length = n) (h : ∀ x ∈ ws, Sn a F x) (k : ∀ r ∈ A, Sc s E r) (hB : ws.length * (F * E) ≤ B) : Sc (a * s) B (vm n ws A) := by
  refine sc_of fun x hx => ?_
  rw [vm_as hn] at hx
  obtain ⟨q, _, rfl⟩ := List.mem_map.mp hx
  obtain ⟨z, e, b⟩ := dot_sn h (ys := Mt.col A q) (fun y hy => by
    obtain ⟨r, hr, rfl⟩ := List.mem_map.mp hy
    exact k r hr q)
  exact ⟨z, e, Nat.le_trans b hB⟩
theorem task_mk {s : Int} {E m size : Nat} {rows : List (List Rat)} (s0 : s ≠ 0) (sE : s.natAbs ≤ E) (len : ∀ r ∈ rows, r.length = size) (h : ∀ r ∈ rows, ∀ x ∈ r, Sn s E x) (few : rows.length ≤ m) (m1 : 1 ≤ m) (E1 : 1 ≤ E) (big : (m + 1) * (E * (m * E) ^ m) < 2 ^ 2900) (l48 : rows.length ≤ 48) (n48 : size ≤ 48) : Task s E m size rows :=
  ⟨⟨s0, sE, len, fun r hr q => sc_of (h r hr) q, few, m1, E1⟩, big, l48, n48⟩
/-- entries with a common bottom -/
def MB (A : List (List Rat)) : Prop := Cm fun D => ∀ r ∈ A, ∀ x ∈ r, Bq D x
def Tn (A : List (List Rat)) : Prop := ∀ r ∈ A, ∀ x ∈ r, Sn 42 42 x
theorem bq_tiny {x : Rat} (h : Sn 42 42 x) : Bq 1 x := sn_le h (by decide)
theorem mb_tiny {A : List (List Rat)} (h : Tn A) : MB A := ⟨1, Nat.le_refl _, by decide, fun r hr x hx => bq_tiny (h r hr x hx)⟩
/-- with another bottom, too -/
theorem bq_two {D D2 : Nat} {x : Rat} (h : Bq D x) (hD : D ≤ 2 ^ 134) (h2 : D2 ≤ 2 ^ 134) : Sn ((D2 : Int) * (42 * (D : Int))) (2 ^ 408) x := by
  refine sn_up (u := (D2 : Int)) h ?_
  show D2 * (42 * D * 2 ^ 134) ≤ 2 ^ 408
  have h1 : 42 * D * 2 ^ 134 ≤ 42 * 2 ^ 134 * 2 ^ 134 := Nat.mul_le_mul_right _ (Nat.mul_le_mul_left _ hD)
  have h3 : D2 * (42 * D * 2 ^ 134) ≤ 2 ^ 134 * (42 * 2 ^ 134 * 2 ^ 134) := Nat.mul_le_mul h2 h1
  exact Nat.le_trans h3 (by decide)
theorem s_abs {D D2 : Nat} (hD : D ≤ 2 ^ 134) (h2 : D2 ≤ 2 ^ 134) : ((D2 : Int) * (42 * (D : Int))).natAbs ≤ 2 ^ 408 := by
  rw [Int.natAbs_mul, Int.natAbs_mul]
  show D2 * (42 * D) ≤ 2 ^ 408
  have h3 : D2 * (42 * D) ≤ 2 ^ 134 * (42 * 2 ^ 134) := Nat.mul_le_mul h2 (Nat.mul_le_mul_left _ hD)
  exact Nat.le_trans h3 (by decide)
theorem s_ne {D D2 : Nat} (hD : 1 ≤ D) (h2 : 1 ≤ D2) : ((D2 : Int) * (42 * (D : Int))) ≠ 0 := by
  have : (0 : Int) < (D2 : Int) * (42 * (D : Int)) := Int.mul_pos (by omega) (by omega)
  omega
theorem big6 : (6 + 1) * (2 ^ 408 * (6 * 2 ^ 408) ^ 6) < 2 ^ 2900 := by decide
theorem big48 : (48 + 1) * (42 * (48 * 42) ^ 48) < 2 ^ 2900 := by decide
section
variable {d1 d2 : PyData}
theorem mis_len {A : List (List Rat)} (d : PyData) (hl : ∀ r ∈ A, r.length = width A) (mf : misfit (mD A) d = false) : ∀ r ∈ A, r.length = rowLen d := by
  rw [mis_as] at mf
  cases A with
  | nil => intro r hr; simp at hr
  | cons r0 A =>
    have h := of_decide_eq_false mf
    intro r hr
    rw [hl r hr]
    exact Classical.byContradiction h
theorem jm {A : List (List Rat)} (j : jMat (mD A) = true) : A.length ≤ 48 ∧ (∀ r ∈ A, r.length = width A) ∧ width A ≤ 48 := by
  obtain ⟨B, e, h⟩ := mat_of j
  rw [mD_inj e]; exact h
theorem jv {t : List Rat} (j : jVec (vD t) = true) : t.length ≤ 48 := by
  obtain ⟨B, e, h⟩ := vec_of j
  rw [vD_inj e]; exact h
theorem ok0D (h1 : M3 d1) (h2 : ∀ t, d2 = vD t → DrV t) : Okw 0 d1 d2 := by
  refine ⟨fun _ j1 j2 mf A t e1 e2 => ?_, fun z => by omega, fun z => by omega, fun z => by omega⟩
  obtain ⟨a6, D, p1, p2, hD⟩ := h1.1 A e1
  obtain ⟨D2, q1, q2, hD2⟩ := h2 t e2
  subst e1 e2
  have j := jm j1
  have tl : ∀ r ∈ A, r.length = t.length := fun r hr => by
    rw [mis_len _ j.2.1 mf r hr]
    show (t.map rD).length = _
    rw [List.length_map]
  refine ⟨(D2 : Int) * (42 * (D : Int)), 2 ^ 408, 6, task_mk (s_ne p1 q1) (s_abs p2 q2) tl (fun r hr x hx => bq_two (hD r hr x hx) p2 q2) a6 (by decide) (by decide) big6 j.1 (jv j2), sc_of fun x hx => ?_⟩
  have := bq_two (hD2 x hx) q2 p2
  have e : (D : Int) * (42 * (D2 : Int)) = (D2 : Int) * (42 * (D : Int)) := by grind
  rw [e] at this
  exact this
theorem ok0T (h1 : ∀ A, d1 = mD A → Tn A) (h2 : ∀ t, d2 = vD t → ∀ x ∈ t, Sn 42 42 x) : Okw 0 d1 d2 := by
  refine ⟨fun _ j1 j2 mf A t e1 e2 => ?_, fun z => by omega, fun z => by omega, fun z => by omega⟩
  have hA := h1 A e1
  have ht := h2 t e2
  subst e1 e2
  have j := jm j1
  have tl : ∀ r ∈ A, r.length = t.length := fun r hr => by
    rw [mis_len _ j.2.1 mf r hr]
    show (t.map rD).length = _
    rw [List.length_map]
  exact ⟨42, 42, 48, task_mk (by decide) (by decide) tl hA j.1 (by decide) (by decide) big48 j.1 (jv j2), sc_of ht⟩
theorem ok1 (h1 : ∀ A, d1 = mD A → MB A) (h2 : ∀ A, d2 = mD A → MB A) : Okw 1 d1 d2 := by
  refine ⟨fun z => by omega, fun _ j1 j2 mf A B e1 e2 => ?_, fun z => by omega, fun z => by omega⟩
  obtain ⟨D, p1, p2, hD⟩ := h1 A e1
  obtain ⟨D2, q1, q2, hD2⟩ := h2 B e2
  subst e1 e2
  have j := jm j1
  have k := jm j2
  have tl : ∀ r ∈ A, r.length = B.length := fun r hr => by
    rw [mis_len _ j.2.1 mf r hr]
    show (B.map vD).length = _
    rw [List.length_map]
  have b1 : ∀ r ∈ A, ∀ x ∈ r, Sn ((1 : Nat) * (42 * (D : Int))) (2 ^ 408) x := fun r hr x hx => bq_two (D2 := 1) (hD r hr x hx) p2 (by decide)
  have b2 : ∀ r ∈ B, ∀ x ∈ r, Sn ((1 : Nat) * (42 * (D2 : Int))) (2 ^ 408) x := fun r hr x hx => bq_two (D2 := 1) (hD2 r hr x hx) q2 (by decide)
  have n1 := s_ne (D2 := 1) p1 (by decide)
  have n2 := s_ne (D2 := 1) q1 (by decide)
  have m1 := s_abs (D2 := 1) p2 (by decide)
  have m2 := s_abs (D2 := 1) q2 (by decide)
  refine ⟨tl, k.2.1, j.1, k.1, k.2.2, fun r hr y hy => sn_bd (b1 r hr y hy) n1 m1 (by decide), fun r hr y hy => sn_bd (b2 r hr y hy) n2 m2 (by decide), fun r hr i o ho => ?_⟩
  have hs := sc_vm (n := width B) (ws := r.take i) (A := B.take i) (B := 48 * (2 ^ 408 * 2 ^ 408)) (fun b hb => k.2.1 b (List.mem_of_mem_take hb)) (fun x hx => b1 r hr x (List.mem_of_mem_take hx)) (fun b hb => sc_of (b2 b (List.mem_of_mem_take hb))) (by
    refine Nat.mul_le_mul_right _ ?_
    have := tl r hr
    rw [List.length_take]; omega)
  refine sn_bd (sn_of hs o ho) (Int.mul_ne_zero n1 n2) ?_ (by decide)
  rw [Int.natAbs_mul]
  exact Nat.le_trans (Nat.mul_le_mul m1 m2) (by decide)
theorem ok2D (h1 : M3 d1) : Okw 2 d1 d2 := by
  refine ⟨fun z => by omega, fun z => by omega, fun _ j1 A e1 => ?_, fun z => by omega⟩
  obtain ⟨a6, D, p1, p2, hD⟩ := h1.1 A e1
  subst e1
  have j := jm j1
  exact ⟨_, 2 ^ 408, 6, task_mk (s_ne (D2 := 1) p1 (by decide)) (s_abs (D2 := 1) p2 (by decide)) j.2.1 (fun r hr x hx => bq_two (D2 := 1) (hD r hr x hx) p2 (by decide)) a6 (by decide) (by decide) big6 j.1 j.2.2⟩
theorem ok2T (h1 : ∀ A, d1 = mD A → Tn A) : Okw 2 d1 d2 := by
  refine ⟨fun z => by omega, fun z => by omega, fun _ j1 A e1 => ?_, fun z => by omega⟩
  have hA := h1 A e1
  subst e1
  have j := jm j1
  exact ⟨42, 42, 48, task_mk (by decide) (by decide) j.2.1 hA j.1 (by decide) (by decide) big48 j.1 j.2.2⟩
theorem sq_of {A : List (List Rat)} (j : jMat (mD A) = true) (ob : oblong (mD A) = false) : ∀ r ∈ A, r.length = A.length := by
  cases A with
  | nil => intro r hr; simp at hr
  | cons r0 A =>
    exact jMat_square (way := 0) ob (fun z => by
      rcases z with z | z
      · omega
      · cases z) (jm j).2.1
theorem ok3D (h1 : M3 d1) : Okw 3 d1 d2 := by
  refine ⟨fun z => by omega, fun z => by omega, fun z => by omega, fun _ j1 ob A e1 => ?_⟩
  obtain ⟨a6, D, p1, p2, hD⟩ := h1.1 A e1
  subst e1
  have j := jm j1
  exact ⟨_, 2 ^ 408, 6, task_mk (s_ne (D2 := 1) p1 (by decide)) (s_abs (D2 := 1) p2 (by decide)) (sq_of j1 ob) (fun r hr x hx => bq_two (D2 := 1) (hD r hr x hx) p2 (by decide)) a6 (by decide) (by decide) big6 j.1 j.1⟩
theorem ok3T (h1 : ∀ A, d1 = mD A → Tn A) : Okw 3 d1 d2 := by
  refine ⟨fun z => by omega, fun z => by omega, fun z => by omega, fun _ j1 ob A e1 => ?_⟩
  have hA := h1 A e1
  subst e1
  have j := jm j1
  exact ⟨42, 42, 48, task_mk (by decide) (by decide) (sq_of j1 ob) hA j.1 (by decide) (by decide) big48 j.1 j.1⟩
theorem m3_mb (h : M3 d1) : ∀ A, d1 = mD A → MB A := fun A e => (h.1 A e).2
/-! ### the vector of a drawn row, of a long thing -/
theorem vec_row {d : PyData} (h : M3 (.tuple [d])) : ∀ t, d = vD t → DrV t := fun t e => by
  obtain ⟨_, D, p1, p2, hD⟩ := h.1 [t] (by rw [e]; rfl)
  exact ⟨D, p1, p2, fun x hx => hD t (by simp) x hx⟩
theorem long_tn {A : List (List Rat)} (h : Long A) : ∀ B, mD A = mD B → Tn B := fun B e => by
  rw [← mD_inj e]; exact h.tiny
theorem nil_tn : ∀ A, PyData.tuple [] = mD A → Tn A := fun A e => by
  have : ([] : List PyData) = A.map vD := tup_inj e
  cases A with
  | nil => intro r hr; simp at hr
  | cons _ _ => simp at this
theorem tn_vec {r : List Rat} (h : ∀ x ∈ r, Sn 42 42 x) : ∀ t, vD r = vD t → ∀ x ∈ t, Sn 42 42 x := fun t e => by
  rw [← vD_inj e]; exact h
end
/-! ### the zero matrix with one row of zeros -/
def zeroOne (m : Nat) : List (List Rat) := List.replicate m 0 :: List.replicate (m - 1) (List.replicate m 1)
theorem zo_tn {m : Nat} : ∀ A, mD (zeroOne m) = mD A → Tn A := fun A e => by
  rw [← mD_inj e]
  intro r hr x hx
  rcases List.mem_cons.mp hr with rfl | hr
  · rw [(List.mem_replicate.mp hx).2]; exact sn_zero _ _
  · rw [(List.mem_replicate.mp hr).2] at hx
    rw [(List.mem_replicate.mp hx).2]
    exact ⟨42, by decide +kernel, by decide⟩
theorem eb_one : smD (rD 1) := smD_tup.mpr (smAll_of fun d hd => by
  have : d = .int 1 ∨ d = .int 1 := by simpa [rD] using hd
  rcases this with e | e <;> rw [e] <;> exact smD_int.mpr (by decide))
theorem zo_sm {m : Nat} : smD (mD (zeroOne m)) := sm_mat fun r hr x hx => by
  rcases List.mem_cons.mp hr with rfl | hr
  · rw [(List.mem_replicate.mp hx).2]; exact eb_sm eb_zero
  · rw [(List.mem_replicate.mp hr).2] at hx
    rw [(List.mem_replicate.mp hx).2]; exact eb_one
/-! ### the unit matrices -/
theorem un_tn {n : Nat} : ∀ A, mD (unitM n) = mD A → Tn A := fun A e => by
  rw [← mD_inj e]
  intro r hr x hx
  obtain ⟨k, _, rfl⟩ := List.mem_map.mp hr
  obtain ⟨q, _, rfl⟩ := List.mem_map.mp hx
  show Sn 42 42 (if q = k then 1 else 0)
  split
  · exact ⟨42, by decide +kernel, by decide⟩
  · exact sn_zero _ _
theorem jVec_vD {r : List Rat} : jVec (vD r) = decide (r.length ≤ 48) := by
  have h : (r.map rD).all jRatio = true := List.all_eq_true.mpr fun d hd => by
    obtain ⟨q, _, rfl⟩ := List.mem_map.mp hd
    exact ratio_ok q
  show (decide ((r.map rD).length ≤ 48) && (r.map rD).all jRatio) = _
  rw [h, List.length_map, Bool.and_true]
theorem un48 {x : Str} (h : Wd 3 (mD (unitM 48)) (.tuple []) x) : x = "told" := by
  have jt : jMat (mD (unitM 48)) = true := by
    have h1 : ((unitM 48).map vD).all jVec = true := List.all_eq_true.mpr fun d hd => by
      obtain ⟨r, hr, rfl⟩ := List.mem_map.mp hd
      rw [jVec_vD, unitM_rows r hr]; rfl
    have h2 : ((unitM 48).map vD).all (fun r => decide (rowLen r = rowLen (((unitM 48).map vD).getD 0 .none))) = true := List.all_eq_true.mpr fun d hd => by
      obtain ⟨r, hr, rfl⟩ := List.mem_map.mp hd
      rw [decide_eq_true_eq]
      have e1 : rowLen (vD r) = 48 := by show (r.map rD).length = 48; rw [List.length_map, unitM_rows r hr]
      have e2 : ((unitM 48).map vD).getD 0 .none = vD (unitL 0 48) := rfl
      rw [e1, e2]
      show 48 = ((unitL 0 48).map rD).length
      rw [List.length_map, unitL_length]
    show (decide (((unitM 48).map vD).length ≤ 48) && ((unitM 48).map vD).all jVec && ((unitM 48).map vD).all (fun r => decide (rowLen r = rowLen (((unitM 48).map vD).getD 0 .none)))) = true
    rw [h1, h2, List.length_map, unitM_length]; rfl
  have ob : oblong (mD (unitM 48)) = false := by
    have e : mD (unitM 48) = .tuple (vD (unitL 0 48) :: ((List.range' 1 47).map fun k => vD (unitL k 48))) := rfl
    rw [e]
    show decide (((unitL 0 48).map rD).length ≠ (vD (unitL 0 48) :: ((List.range' 1 47).map fun k => vD (unitL k 48))).length) = false
    rw [List.length_map, unitL_length, List.length_cons, List.length_map, List.length_range']
    decide
  cases h with
  | m1 j => rw [jt] at j; cases j
  | v0 z => cases z
  | u0 z => cases z
  | t0 z => rfl
  | m2 z => cases z
  | u1 z => cases z
  | t1 z => rfl
  | t2 z => rfl
  | u3 _ _ o => rw [ob] at o; cases o
  | s3 A _ _ _ e lt =>
    exfalso
    have e2 := mD_inj e
    subst e2
    have hf := unit_full 48
    rw [unitM_length] at lt
    omega
  | t3 => rfl
theorem un49 {x : Str} (h : Wd 3 (mD (unitM 49)) (.tuple []) x) : x = "matrix" := by
  have jt : jMat (mD (unitM 49)) = false := by
    show (decide (((unitM 49).map vD).length ≤ 48) && ((unitM 49).map vD).all jVec && ((unitM 49).map vD).all (fun r => decide (rowLen r = rowLen (((unitM 49).map vD).getD 0 .none)))) = false
    rw [List.length_map, unitM_length]; rfl
  cases h with
  | m1 j => rfl
  | v0 z => cases z
  | u0 z => cases z
  | t0 z => cases z
  | m2 z => rfl
  | u1 z => cases z
  | t1 z => cases z
  | t2 z => cases z
  | u3 _ j => rw [jt] at j; cases j
  | s3 A _ j => rw [jt] at j; cases j
  | t3 A _ j => rw [jt] at j; cases j
end K42

set_option Elab.async false
set_option linter.all false
set_option maxRecDepth 100000
set_option exponentiation.threshold 20000
namespace K42
open PySem PySem.Spec PyProof.Rows L2 Ly Mt El
/-- data of ints, texts and tuples, nested less than d deep -/
inductive Fl : Nat → PyData → Prop
  | int (d : Nat) (i : Int) : Fl d (.int i)
  | str (d : Nat) (x : Str) : Fl d (.str x)
  | tup (d : Nat) (ds : List PyData) : ds.length ≤ 1000 → (∀ x ∈ ds, Fl d x) → Fl (d + 1) (.tuple ds)
theorem fl_rat (d : Nat) (q : Rat) : Fl (d + 1) (rD q) := .tup d _ (by show 2 ≤ 1000; decide) fun x hx => by
  have : x = .int q.num ∨ x = .int (q.den : Int) := by simpa using hx
  rcases this with h | h <;> rw [h] <;> exact .int d _
theorem fl_vec (d : Nat) {r : List Rat} (h : r.length ≤ 1000) : Fl (d + 2) (vD r) := .tup (d + 1) _ (by rw [List.length_map]; exact h) fun x hx => by
  obtain ⟨q, _, rfl⟩ := List.mem_map.mp hx
  exact fl_rat d q
theorem fl_word {x : Str} {r : List Rat} (h : r.length ≤ 1000) : Fl 3 (.tuple [.str x, vD r]) := .tup 2 _ (by show 2 ≤ 1000; decide) fun y hy => by
  have : y = .str x ∨ y = vD r := by simpa using hy
  rcases this with e | e <;> rw [e]
  · exact .str 2 _
  · exact fl_vec 0 h
section
variable {P : Program} {w : World} {K : PySem.W.Frag} {mg : Str → Option Value} {base : Heap} {C : Addr}
abbrev s__law_same : Stmt := topS 48
theorem sc__law_same : FnScope ["found", "due", "k"] ["found", "due"] (defScope s__law_same) := ⟨rfl, rfl, rfl, by decide +kernel, rfl, by decide +kernel, by decide +kernel⟩
def sp_same (K : PySem.W.Frag) : Nat → Sp
  | 0 => fun _ _ _ _ => False
  | d + 1 => fun vs H Q _ => ∃ v1 v2 D, vs = [v1, v2] ∧ Im K H v1 D ∧ Im K H v2 D ∧ Fl d D ∧ ∀ H', Same H H' → Q (.bl true) H'
theorem ok_same0 {f : Addr} {fd : FuncData} {k : Nat} (F : Fun K "_law_same" "_law_same" s__law_same f fd) : FnOk P w K mg base CX0 (k + 1) f fd ["found", "due"] (sp_same K 0) := by
  exact F.ok sc__law_same (fun vs H Q E h => h.elim) (fun cdv A outer s H vs Q E hr h => h.elim)
theorem ok__law_same {f : Addr} {fd : FuncData} {k : Nat} (F : Fun K "_law_same" "_law_same" s__law_same f fd) (T : Tx K mg C){ki d : Nat} (D__law_same : Def P w K mg base ki "_law_same" s__law_same ["found", "due"] (sp_same K d)) (hk : ki ≤ k) : FnOk P w K mg base CX0 (k + 1) f fd ["found", "due"] (sp_same K (d + 1)) := by
  have nd := sc__law_same.nd
  refine F.ok sc__law_same (fun vs H Q E h => ?_) (fun cdv A outer s H vs Q E hr h => ?_)
  · obtain ⟨_, _, _, rfl, _⟩ := h
    rfl
  · obtain ⟨v1, v2, D, rfl, i1, i2, fl, q⟩ := h
    refine ⟨_, (pss_cons (ps_if (pt_val (pe_callB (kcall_isi K) (by rfl) T.m_isinstance (by decide +kernel) (pa_cons (pv 1) (pa_cons (pe_bltn (v := .ty "tuple") (u := .type "tuple") (by rfl) T.m_tuple (by decide +kernel) rfl) pa_nil))))
        (pss_cons (ps_if (PW.pt (pw_or (pt_not (pt_val (pe_callB (kcall_isi K) (by rfl) T.m_isinstance (by decide +kernel) (pa_cons (pv 0) (pa_cons (pe_bltn (v := .ty "tuple") (u := .type "tuple") (by rfl) T.m_tuple (by decide +kernel) rfl) pa_nil))))) (pw_or1 (pt_cmpR op_ne (pe_callB (kcall_len K) (by rfl) T.m_len PySem.boot_len (pa_cons (pv 0) pa_nil)) (pe_callB (kcall_len K) (by rfl) T.m_len PySem.boot_len (pa_cons (pv 1) pa_nil)) (nomark _)))))
          (pss_one (ps_ret pe_bl))
          pss_nil)
        (pss_one (ps_ret (pe_callB (kcr_all K) (by rfl) T.m_all (by decide +kernel) (pa_cons (pe_lc (own := [("k", 2)]) (g := gName 2) (tt := tYes) rfl nd (pi_range1 rfl T.m_range (pa_cons (pe_callB (kcall_len K) (by rfl) T.m_len PySem.boot_len (pa_cons (pv 1) pa_nil)) pa_nil)) (blkOk_by (by rfl)) (fun _ _ _ _ _ => (pg_name (i := 2) nd rfl (.inl rfl))) (fun _ _ _ _ _ => pts_nil) (fun _ _ _ _ _ => (pe_def D__law_same (hr.mono (by omega)) rfl (pa_cons (pe_ix (kix_tup K) (pv 0) (pv 2) (fun _ _ => rfl)) (pa_cons (pe_ix (kix_tup K) (pv 1) (pv 2) (fun _ _ => rfl)) pa_nil))))) pa_nil)))))
        pss_nil)
      (pss_cons (ps_if (pt_cmp (pc_isN (pv 1)))
        (pss_one (ps_ret (pe_cmp (pc_isN (pv 0)) rfl)))
        pss_nil)
      (pss_cons (ps_if (pt_val (pe_callB (kcall_isi K) (by rfl) T.m_isinstance (by decide +kernel) (pa_cons (pv 1) (pa_cons (pe_bltn (v := .ty "bool") (u := .type "bool") (by rfl) T.m_bool (by decide +kernel) rfl) pa_nil))))
        (pss_one (ps_ret (pe_and (pe_callB (kcall_isi K) (by rfl) T.m_isinstance (by decide +kernel) (pa_cons (pv 0) (pa_cons (pe_bltn (v := .ty "bool") (u := .type "bool") (by rfl) T.m_bool (by decide +kernel) rfl) pa_nil))) (pe_one (pe_cmpR op_eq (pv 0) (pv 1) (nomark _))))))
        pss_nil)
      (pss_cons (ps_if (pt_val (pe_callB (kcall_isi K) (by rfl) T.m_isinstance (by decide +kernel) (pa_cons (pv 1) (pa_cons (pe_bltn (v := .ty "int") (u := .type "int") (by rfl) T.m_int (by decide +kernel) rfl) pa_nil))))
        (pss_one (ps_ret (pe_and (pe_callB (kcall_isi K) (by rfl) T.m_isinstance (by decide +kernel) (pa_cons (pv 0) (pa_cons (pe_bltn (v := .ty "int") (u := .type "int") (by rfl) T.m_int (by decide +kernel) rfl) pa_nil))) (pe_and (pe_not (pe_callB (kcall_isi K) (by rfl) T.m_isinstance (by decide +kernel) (pa_cons (pv 0) (pa_cons (pe_bltn (v := .ty "bool") (u := .type "bool") (by rfl) T.m_bool (by decide +kernel) rfl) pa_nil)))) (pe_one (pe_cmpR op_eq (pv 0) (pv 1) (nomark _)))))))
        pss_nil)
      (pss_one (ps_ret (pe_and (pe_callB (kcall_isi K) (by rfl) T.m_isinstance (by decide +kernel) (pa_cons (pv 0) (pa_cons (pe_bltn (v := .ty "str") (u := .type "str") (by rfl) T.m_str (by decide +kernel) rfl) pa_nil))) (pe_one (pe_cmpR op_eq (pv 0) (pv 1) (nomark _)))))))))), ?_⟩
    cases fl with
    | int d i =>
      rw [i1.int_inv, i2.int_inv]
      refine ⟨.int i, rfl, .int i, _, .type "int", _, false, rfl, .ty _, .base (.int i), kit_ty (by decide +kernel), false, rfl, iteF ?_⟩
      refine ⟨.int i, rfl, _, rfl, ?_⟩
      rw [decide_eq_false (show ¬ V.int i = V.non from fun z => nomatch z)]
      refine iteF ⟨.int i, rfl, .int i, _, .type "int", _, false, rfl, .ty _, .base (.int i), kit_ty (by decide +kernel), false, rfl, iteF ?_⟩
      refine ⟨.int i, rfl, .int i, _, .type "int", _, true, rfl, .ty _, .base (.int i), kit_ty (by decide +kernel), true, rfl, iteT ?_⟩
      refine ⟨.int i, rfl, .int i, _, .type "int", _, true, rfl, .ty _, .base (.int i), kit_ty (by decide +kernel), true, rfl, iteT ?_⟩
      refine ⟨.int i, rfl, .int i, _, .type "int", _, false, rfl, .ty _, .base (.int i), kit_ty (by decide +kernel), false, rfl, true, rfl, iteT ?_⟩
      refine ⟨.int i, rfl, .int i, rfl, rfl, ?_⟩
      rw [decide_eq_true rfl]
      exact q H (Same.refl H)
    | str d x =>
      rw [i1.str_inv, i2.str_inv]
      refine ⟨.str x, rfl, .str x, _, .type "str", _, false, rfl, .ty _, .base (.str x), kit_ty (by decide +kernel), false, rfl, iteF ?_⟩
      refine ⟨.str x, rfl, _, rfl, ?_⟩
      rw [decide_eq_false (show ¬ V.str x = V.non from fun z => nomatch z)]
      refine iteF ⟨.str x, rfl, .str x, _, .type "str", _, false, rfl, .ty _, .base (.str x), kit_ty (by decide +kernel), false, rfl, iteF ?_⟩
      refine ⟨.str x, rfl, .str x, _, .type "str", _, false, rfl, .ty _, .base (.str x), kit_ty (by decide +kernel), false, rfl, iteF ?_⟩
      refine ⟨.str x, rfl, .str x, _, .type "str", _, true, rfl, .ty _, .base (.str x), kit_ty (by decide +kernel), true, rfl, iteT ?_⟩
      refine ⟨.str x, rfl, .str x, rfl, rfl, ?_⟩
      rw [decide_eq_true rfl]
      exact q H (Same.refl H)
    | tup d ds hl hfl =>
      obtain ⟨a, xs, rfl, ha, hxs⟩ := i1.tuple_inv
      obtain ⟨b, ys, rfl, hb, hys⟩ := i2.tuple_inv
      have lx := hxs.length
      have ly := hys.length
      refine ⟨.ref b, rfl, .ref b, _, .type "tuple", _, true, rfl, .ty _, ity hb, kit_ty (by decide +kernel), true, rfl, iteT ?_⟩
      refine ⟨.ref a, rfl, .ref a, _, .type "tuple", _, true, rfl, .ty _, ity ha, kit_ty (by decide +kernel), true, rfl, iteF ?_⟩
      refine ⟨.ref a, rfl, a, xs, rfl, .inr ha.sq, .ref b, rfl, b, ys, rfl, .inr hb.sq, rfl, _, rfl, ?_⟩
      rw [show xs.length = ys.length by omega]
      refine iteNS rfl ?_
      refine ⟨.ref b, rfl, b, ys, rfl, .inr hb.sq, (ys.length : Nat), rfl, by omega, by omega, fun D2 hD => ?_⟩
      refine lc_all (walk_range (lo := 0) (n := ys.length)) (fun i H2 => Same H H2 ∧ H2 D2 = some (.lst ((List.replicate i true).map V.bl))) ⟨same_new hD, upd_same⟩ (fun _ _ _ _ => trivial) (fun i x H2 H3 hi z y => ?_) (fun H2 z => ?_)
      · obtain ⟨sm, eD⟩ := z
        obtain ⟨rfl, rfl⟩ := y
        have hd : ds[i]? = some (ds[i]'(by omega)) := List.getElem?_eq_getElem (by omega)
        generalize ds[i]'(by omega) = di at hd
        obtain ⟨x1, hx1, j1⟩ := hxs.get hd
        obtain ⟨x2, hx2, j2⟩ := hys.get hd
        have k0 : ((0 : Int) + (i : Nat)) = ((i : Nat) : Int) := by omega
        have g1 : atI xs ((0 : Int) + (i : Nat)) = some x1 := by rw [k0]; exact atI_nat hx1
        have g2 : atI ys ((0 : Int) + (i : Nat)) = some x2 := by rw [k0]; exact atI_nat hx2
        refine ⟨rfl, .ref a, rfl, .int _, rfl, a, xs, _, _, rfl, rfl, (ha.mono (tk_same sm)).sq, g1, .ref b, rfl, .int _, rfl, b, ys, _, _, rfl, rfl, (hb.mono (tk_same sm)).sq, g2, x1, x2, di, rfl, Im.mono (tk_same sm) _ j1, Im.mono (tk_same sm) _ j2, hfl di (List.mem_of_getElem? hd), fun H4 sm4 => ⟨_, sm4 _ _ eD, ?_, fun c o e => ?_, ?_⟩⟩
        · rw [List.length_map, List.length_replicate]; exact small1000 (by omega)
        · rw [upd_ne (ne_of_none e hD)]
          exact sm4 _ _ (sm _ _ e)
        · rw [upd_same, List.replicate_succ', List.map_append]; rfl
      · refine ⟨D2, List.replicate ys.length true, rfl, .of z.2, ?_⟩
        have e : (List.replicate ys.length true).all id = true := by simp
        rw [e]
        exact q _ z.1
end
/-! ### the fixed question -/
def tq : Rat := ⟨3, 2, by decide, by decide⟩
def A0 : List (List Rat) := [[1, half], [0, 1]]
def t0 : List Rat := [1, tq]
theorem first0 : first (leftOf A0 2 t0) 2 = none := by decide +kernel
theorem wts0 : wts A0 2 t0 = [1, 1] := by decide +kernel
theorem told0 : told A0 2 t0 = .tuple [.str "made", vD [1, 1]] := by
  unfold told
  rw [first0, wts0]
theorem solv0 : Solv (mD A0) (vD t0) := fun A t e1 e2 => by
  rw [← mD_inj e1, ← vD_inj e2]
  refine ⟨42, 63, 2, task_mk (by decide) (by decide) (fun r hr => ?_) (fun r hr x hx => ?_) (by decide) (by decide) (by decide) (by decide) (by decide) (by decide), sc_of fun x hx => ?_⟩
  · have : r = [1, half] ∨ r = [0, 1] := by simpa [A0] using hr
    rcases this with rfl | rfl <;> rfl
  · have h1 : Sn 42 63 1 := ⟨42, by decide +kernel, by decide⟩
    have : r = [1, half] ∨ r = [0, 1] := by simpa [A0] using hr
    rcases this with rfl | rfl
    · have : x = 1 ∨ x = half := by simpa using hx
      rcases this with rfl | rfl
      · exact h1
      · exact sn_le sn_half (by decide)
    · have : x = 0 ∨ x = 1 := by simpa using hx
      rcases this with rfl | rfl
      · exact sn_zero _ _
      · exact h1
  · have : x = 1 ∨ x = tq := by simpa [t0] using hx
    rcases this with rfl | rfl
    · exact ⟨42, by decide +kernel, by decide⟩
    · exact ⟨63, by decide +kernel, by decide⟩
theorem jm0 : jMat (mD A0) = true := by decide +kernel
theorem jv0 : jVec (vD t0) = true := by decide +kernel
theorem mf0 : misfit (mD A0) (vD t0) = false := by decide +kernel
end K42

set_option Elab.async false
set_option linter.all false
set_option maxRecDepth 100000
set_option exponentiation.threshold 20000
namespace K42
open PySem PySem.Spec PyProof.Rows L2 Ly Mt El
theorem sm_nil : smD (.tuple []) := smD_tup.mpr (smAll_of fun _ h => by simp at h)
theorem le125 {a b : Nat} (ha : a ≤ 5) (hb : b ≤ 5) : 5 * b * a ≤ 125 := Nat.mul_le_mul (Nat.mul_le_mul_left 5 hb) ha
theorem shaped_two : SeqAt.shaped (.list [.str "told", .str "matrix"]) = true := shaped_of (by decide +kernel) (by decide +kernel)
theorem eqv_two : PyData.eqv (.list [.str "told", .str "matrix"]) (.list [.str "told", .str "matrix"]) = true := by decide +kernel
theorem bar_same' {D : Addr} {H H' : Hp} (s : Same H H') : Bar D H H' := fun b o _ h => s b o h
section
variable {P : Program} {w : World} {K : PySem.W.Frag} {mg : Str → Option Value} {base : Heap} {C : Addr}
abbrev s_law : Stmt := topS 57
theorem sc_law : FnScope ["script", "cup", "kept", "turn", "many", "size", "one", "row", "vector", "some", "square", "thing", "line", "units", "found", "k", "j"] ["script"] (defScope s_law) := ⟨rfl, rfl, rfl, by decide +kernel, rfl, by decide +kernel, by decide +kernel⟩
def sp_law (K : PySem.W.Frag) : Sp := fun vs H Q _ => ∃ (a : Addr) (ns : List Int), vs = [.ref a] ∧ SqL K H a (ns.map V.int) ∧ ns.length ≤ 63 ∧ ∀ H', Q (.bl true) H'
set_option maxHeartbeats 8000000 in
theorem ok_law {f : Addr} {fd : FuncData} {k : Nat} (F : Fun K "law" "law" s_law f fd) (T : Tx K mg C){er : Er} (TE : Tr K mg er) {k1 : Nat} (D__law_cup : Def P w K mg base k1 "_law_cup" s__law_cup ["script"] (sp_cup K)) {k2 : Nat} (D__law_sip : Def P w K mg base k2 "_law_sip" s__law_sip ["cup", "many"] sp_sip) {k3 : Nat} (D__law_drawn : Def P w K mg base k3 "_law_drawn" s__law_drawn ["cup", "many", "size"] (sp_drawn K)) {k4 : Nat} (D__law_long : Def P w K mg base k4 "_law_long" s__law_long ["cup"] (sp_long K)) {k5 : Nat} (D__law_right : Def P w K mg base k5 "_law_right" s__law_right ["way", "one", "other"] (sp_right K)) {k6 : Nat} (D__law_word : Def P w K mg base k6 "_law_word" s__law_word ["way", "one", "other"] (sp_word K)) {k7 : Nat} (D_made_of : DefX P w K mg base k7 "made_of" s_made_of ["rows", "target"] (sp_made_of K er)) {k8 : Nat} (D__law_same : Def P w K mg base k8 "_law_same" s__law_same ["found", "due"] (sp_same K 4)) (h1 : k1 ≤ k) (h2 : k2 ≤ k) (h3 : k3 ≤ k) (h4 : k4 ≤ k) (h5 : k5 ≤ k) (h6 : k6 ≤ k) (h7 : k7 ≤ k) (h8 : k8 ≤ k) : FnOk P w K mg base CX0 (k + 1) f fd ["script"] (sp_law K) := by
  have nd := sc_law.nd
  refine F.ok sc_law (fun vs H Q E h => ?_) (fun cdv A outer s H vs Q E hr h => ?_)
  · obtain ⟨_, _, rfl, _⟩ := h
    rfl
  · obtain ⟨a, ns, rfl, hS, hl, q⟩ := h
    refine ⟨_, (pss_cons (ps_set (i := 1) nd rfl (.inl rfl) (pe_def D__law_cup (hr.mono (by omega)) rfl (pa_cons (pv 0) pa_nil)))
      (pss_cons (ps_set (i := 2) nd rfl (.inl rfl) (pe_defX D_made_of takes0 (hr.mono (by omega)) rfl (pa_cons (pe_tup (pa_cons (pe_tup (pa_cons (pe_tup (pa_cons pe_int (pa_cons pe_int pa_nil))) (pa_cons (pe_tup (pa_cons pe_int (pa_cons pe_int pa_nil))) pa_nil))) (pa_cons (pe_tup (pa_cons (pe_tup (pa_cons pe_int (pa_cons pe_int pa_nil))) (pa_cons (pe_tup (pa_cons pe_int (pa_cons pe_int pa_nil))) pa_nil))) pa_nil))) (pa_cons (pe_tup (pa_cons (pe_tup (pa_cons pe_int (pa_cons pe_int pa_nil))) (pa_cons (pe_tup (pa_cons pe_int (pa_cons pe_int pa_nil))) pa_nil))) pa_nil))))
      (pss_cons (ps_for PassesOwn.never rfl (pi_range1 rfl T.m_range (pa_cons pe_int pa_nil)) (pg_name (i := 3) nd rfl (.inl rfl))
        (pss_cons (ps_asg (pe_tup (pa_cons (pe_def D__law_sip (hr.mono (by omega)) rfl (pa_cons (pv 1) (pa_cons pe_int pa_nil))) (pa_cons (pe_def D__law_sip (hr.mono (by omega)) rfl (pa_cons (pv 1) (pa_cons pe_int pa_nil))) pa_nil))) (kpg_tup K (n := 2) rfl (pgs_cons (pg_name (i := 4) nd rfl (.inl rfl)) (pgs_cons (pg_name (i := 5) nd rfl (.inr rfl)) pgs_nil))))
        (pss_cons (ps_par (i := 6) (j := 7) (by rfl) nd rfl rfl (by decide) rfl rfl (pa_cons (pe_def D__law_drawn (hr.mono (by omega)) rfl (pa_cons (pv 1) (pa_cons (pv 4) (pa_cons (pv 5) pa_nil)))) (pa_cons (pe_def D__law_drawn (hr.mono (by omega)) rfl (pa_cons (pv 1) (pa_cons pe_int (pa_cons (pv 5) pa_nil)))) pa_nil)) (by rfl))
        (C8.pss_cut (ps_set (i := 8) nd rfl (.inl rfl) (pe_ifExp (PW.pt (pw_and (pt_val (pe_callB (kcall_isi K) (by rfl) T.m_isinstance (by decide +kernel) (pa_cons (pv 7) (pa_cons (pe_bltn (v := .ty "tuple") (u := .type "tuple") (by rfl) T.m_tuple (by decide +kernel) rfl) pa_nil)))) (pw_and1 (pt_cmpR op_eq (pe_callB (kcall_len K) (by rfl) T.m_len PySem.boot_len (pa_cons (pv 7) pa_nil)) pe_int (nomark _))))) (pe_ix (kix_tup K) (pv 7) pe_int (fun _ _ => rfl)) (pv 7)))
        (pss_cons (ps_set (i := 9) nd rfl (.inl rfl) (pe_lst (pa_cons (pe_def D__law_drawn (hr.mono (by omega)) rfl (pa_cons (pv 1) (pa_cons (pv 5) (pa_cons (pe_def D__law_sip (hr.mono (by omega)) rfl (pa_cons (pv 1) (pa_cons pe_int pa_nil))) pa_nil)))) (pa_cons (pe_def D__law_drawn (hr.mono (by omega)) rfl (pa_cons (pv 1) (pa_cons (pe_def D__law_sip (hr.mono (by omega)) rfl (pa_cons (pv 1) (pa_cons pe_int pa_nil))) (pa_cons (pv 5) pa_nil)))) (pa_cons (pe_def D__law_long (hr.mono (by omega)) rfl (pa_cons (pv 1) pa_nil)) pa_nil)))))
        (pss_cons (ps_if (PW.pt (pw_or (pt_not (pt_val (pe_def D__law_right (hr.mono (by omega)) rfl (pa_cons pe_int (pa_cons (pv 6) (pa_cons (pv 8) pa_nil)))))) (pw_or (pt_not (pt_val (pe_def D__law_right (hr.mono (by omega)) rfl (pa_cons pe_int (pa_cons (pv 6) (pa_cons (pe_tup pa_nil) pa_nil)))))) (pw_or1 (pt_not (pt_val (pe_def D__law_right (hr.mono (by omega)) rfl (pa_cons pe_int (pa_cons (pv 6) (pa_cons (pe_tup pa_nil) pa_nil))))))))))
          (pss_one (ps_ret pe_bl))
          pss_nil)
        (pss_cons (ps_if (PW.pt (pw_or (pt_not (pt_val (pe_def D__law_right (hr.mono (by omega)) rfl (pa_cons pe_int (pa_cons (pv 6) (pa_cons (pe_ix (kix_list K) (pv 9) pe_int (fun _ _ => rfl)) pa_nil)))))) (pw_or (pt_not (pt_val (pe_def D__law_right (hr.mono (by omega)) rfl (pa_cons pe_int (pa_cons (pe_ix (kix_list K) (pv 9) pe_int (fun _ _ => rfl)) (pa_cons (pv 6) pa_nil)))))) (pw_or1 (pt_not (pt_val (pe_def D__law_right (hr.mono (by omega)) rfl (pa_cons pe_int (pa_cons (pv 6) (pa_cons (pe_ix (kix_list K) (pv 9) pe_int (fun _ _ => rfl)) pa_nil))))))))))
          (pss_one (ps_ret pe_bl))
          pss_nil)
        (pss_cons (ps_set (i := 10) nd rfl (.inl rfl) (pe_def D__law_drawn (hr.mono (by omega)) rfl (pa_cons (pv 1) (pa_cons (pv 4) (pa_cons (pv 4) pa_nil)))))
        (pss_cons (ps_if (PW.pt (pw_or (pt_not (pt_val (pe_def D__law_right (hr.mono (by omega)) rfl (pa_cons pe_int (pa_cons (pv 10) (pa_cons (pe_tup pa_nil) pa_nil)))))) (pw_or (pt_not (pt_val (pe_def D__law_right (hr.mono (by omega)) rfl (pa_cons pe_int (pa_cons (pv 6) (pa_cons (pe_ix (kix_list K) (pv 9) pe_int (fun _ _ => rfl)) pa_nil)))))) (pw_or1 (pt_not (pt_val (pe_def D__law_right (hr.mono (by omega)) rfl (pa_cons pe_int (pa_cons (pe_ix (kix_list K) (pv 9) pe_int (fun _ _ => rfl)) (pa_cons (pv 8) pa_nil))))))))))
          (pss_one (ps_ret pe_bl))
          pss_nil)
        (pss_one (ps_if (PW.pt (pw_and (pt_cmpR op_gt (pv 4) pe_int (nomark _)) (pw_and1 (pt_not (pt_val (pe_def D__law_right (hr.mono (by omega)) rfl (pa_cons pe_int (pa_cons (pe_op (kop_catA K) (pe_tup (pa_cons (pe_op (kop_repTA K) (pe_tup (pa_cons (pe_tup (pa_cons pe_int (pa_cons pe_int pa_nil))) pa_nil)) (pv 4)) pa_nil)) (pe_op (kop_repTA K) (pe_tup (pa_cons (pe_op (kop_repTA K) (pe_tup (pa_cons (pe_tup (pa_cons pe_int (pa_cons pe_int pa_nil))) pa_nil)) (pv 4)) pa_nil)) (pe_op op_sub (pv 4) pe_int))) (pa_cons (pe_tup pa_nil) pa_nil)))))))))
          (pss_one (ps_ret pe_bl))
          pss_nil)))))))))))
      (pss_cons (ps_for PassesOwn.never rfl (kpi_list K (pe_lst (pa_cons (pe_def D__law_long (hr.mono (by omega)) rfl (pa_cons (pv 1) pa_nil)) (pa_cons (pe_def D__law_long (hr.mono (by omega)) rfl (pa_cons (pv 1) pa_nil)) pa_nil)))) (pg_name (i := 11) nd rfl (.inl rfl))
        (pss_cons (ps_set (i := 12) nd rfl (.inl rfl) (pe_ifExp (pt_val (pe_callB (kcall_isi K) (by rfl) T.m_isinstance (by decide +kernel) (pa_cons (pe_ix (kix_tup K) (pv 11) pe_int (fun _ _ => rfl)) (pa_cons (pe_bltn (v := .ty "tuple") (u := .type "tuple") (by rfl) T.m_tuple (by decide +kernel) rfl) pa_nil)))) (pe_ix (kix_tup K) (pv 11) pe_int (fun _ _ => rfl)) (pe_tup pa_nil)))
        (pss_cons (ps_if (PW.pt (pw_or (pt_not (pt_val (pe_def D__law_right (hr.mono (by omega)) rfl (pa_cons pe_int (pa_cons (pv 11) (pa_cons (pe_tup pa_nil) pa_nil)))))) (pw_or (pt_not (pt_val (pe_def D__law_right (hr.mono (by omega)) rfl (pa_cons pe_int (pa_cons (pv 11) (pa_cons (pv 12) pa_nil)))))) (pw_or1 (pt_not (pt_val (pe_def D__law_right (hr.mono (by omega)) rfl (pa_cons pe_int (pa_cons (pe_ix (kix_list K) (pv 9) pe_int (fun _ _ => rfl)) (pa_cons (pv 11) pa_nil))))))))))
          (pss_one (ps_ret pe_bl))
          pss_nil)
        (pss_cons (ps_if (pt_not (pt_val (pe_def D__law_right (hr.mono (by omega)) rfl (pa_cons pe_int (pa_cons (pv 11) (pa_cons (pe_tup pa_nil) pa_nil))))))
          (pss_one (ps_ret pe_bl))
          pss_nil)
        (pss_one (ps_if (PW.pt (pw_or (pt_not (pt_val (pe_def D__law_right (hr.mono (by omega)) rfl (pa_cons pe_int (pa_cons (pe_tup pa_nil) (pa_cons (pv 12) pa_nil)))))) (pw_or (pt_not (pt_val (pe_def D__law_right (hr.mono (by omega)) rfl (pa_cons pe_int (pa_cons (pe_tup pa_nil) (pa_cons (pv 11) pa_nil)))))) (pw_or1 (pt_not (pt_val (pe_def D__law_right (hr.mono (by omega)) rfl (pa_cons pe_int (pa_cons (pv 11) (pa_cons (pe_tup pa_nil) pa_nil))))))))))
          (pss_one (ps_ret pe_bl))
          pss_nil))))))
      (pss_cons (ps_set (i := 13) nd rfl (.inl rfl) (pe_lst pa_nil))
      (pss_cons (ps_for PassesOwn.never rfl (kpi_tup K (pe_tup (pa_cons pe_int (pa_cons pe_int pa_nil)))) (pg_name (i := 5) nd rfl (.inr rfl))
        (pss_one (ps_expr (pe_bm PySem.F.plainAttrs_list PySem.F.slot_list_append PySem.F.type_list_append mt_append (pv 13) (pa_cons (pe_callTy (kcall_tuple K) (by rfl) T.m_tuple (by decide +kernel) (pa_cons (pe_lc (own := [("k", 15)]) (g := gName 15) (tt := tYes) rfl nd (pi_range1 rfl T.m_range (pa_cons (pv 5) pa_nil)) (blkOk_by (by rfl)) (fun _ _ _ _ _ => (pg_name (i := 15) nd rfl (.inr rfl))) (fun _ _ _ _ _ => pts_nil) (fun _ _ _ _ _ => (pe_callTy (kcall_tuple K) (by rfl) T.m_tuple (by decide +kernel) (pa_cons (pe_lc (own := [("j", 16)]) (g := gName 16) (tt := tYes) rfl nd (pi_range1 rfl T.m_range (pa_cons (pv 5) pa_nil)) (blkOk_by (by rfl)) (fun _ _ _ _ _ => (pg_name (i := 16) nd rfl (.inl rfl))) (fun _ _ _ _ _ => pts_nil) (fun _ _ _ _ _ => (pe_tup (pa_cons (pe_callTy call_int1 (by rfl) T.m_int (by decide +kernel) (pa_cons (pe_cmpR op_eq (pv 15) (pv 16) (nomark _)) pa_nil)) (pa_cons pe_int pa_nil))))) pa_nil)))) pa_nil)) pa_nil)))))
      (pss_cons (ps_if (pt_cmpR (kop_neD K hr.units) (pe_lc (own := [("one", 6)]) (g := gName 6) (tt := tYes) rfl nd (kpi_list K (pv 13)) (blkOk_by (by rfl)) (fun _ _ _ _ _ => (pg_name (i := 6) nd rfl (.inl rfl))) (fun _ _ _ _ _ => pts_nil) (fun _ _ _ _ _ => (pe_def D__law_word (hr.mono (by omega)) rfl (pa_cons pe_int (pa_cons (pv 6) (pa_cons (pe_tup pa_nil) pa_nil)))))) (pe_lst (pa_cons pe_str (pa_cons pe_str pa_nil))) (nomark _))
        (pss_one (ps_ret pe_bl))
        pss_nil)
      (pss_cons (ps_set (i := 14) nd rfl (.inl rfl) (pe_defX D_made_of takes0 (hr.mono (by omega)) rfl (pa_cons (pe_tup (pa_cons (pe_tup (pa_cons (pe_tup (pa_cons pe_int (pa_cons pe_int pa_nil))) (pa_cons (pe_tup (pa_cons pe_int (pa_cons pe_int pa_nil))) pa_nil))) (pa_cons (pe_tup (pa_cons (pe_tup (pa_cons pe_int (pa_cons pe_int pa_nil))) (pa_cons (pe_tup (pa_cons pe_int (pa_cons pe_int pa_nil))) pa_nil))) pa_nil))) (pa_cons (pe_tup (pa_cons (pe_tup (pa_cons pe_int (pa_cons pe_int pa_nil))) (pa_cons (pe_tup (pa_cons pe_int (pa_cons pe_int pa_nil))) pa_nil))) pa_nil))))
      (pss_one (ps_ret (pe_and (pe_def D__law_same (hr.mono (by omega)) rfl (pa_cons (pv 2) (pa_cons (pe_tup (pa_cons pe_str (pa_cons (pe_tup (pa_cons (pe_tup (pa_cons pe_int (pa_cons pe_int pa_nil))) (pa_cons (pe_tup (pa_cons pe_int (pa_cons pe_int pa_nil))) pa_nil))) pa_nil))) pa_nil))) (pe_one (pe_def D__law_same (hr.mono (by omega)) rfl (pa_cons (pv 14) (pa_cons (pe_tup (pa_cons pe_str (pa_cons (pe_tup (pa_cons (pe_tup (pa_cons pe_int (pa_cons pe_int pa_nil))) (pa_cons (pe_tup (pa_cons pe_int (pa_cons pe_int pa_nil))) pa_nil))) pa_nil))) pa_nil))))))))))))))), ?_⟩
    refine ⟨.ref a, rfl, a, ns, rfl, hS, hl, fun c L H1 sm1 nc nL u => ?_⟩
    have bt : But c L H1 H1 := But.refl c L H1
    refine ⟨by show 2 ≤ sizeLine; decide, fun t1 ht1 => ?_⟩
    have s2 := same_new (o := .tup [V.int 1, V.int 1]) ht1
    have e2 : (upd H1 t1 (.tup [V.int 1, V.int 1])) t1 = some (.tup [V.int 1, V.int 1]) := upd_same
    generalize upd H1 t1 (.tup [V.int 1, V.int 1]) = X2 at *
    replace bt := bt.trans (but_same s2)
    replace u := u.same s2
    have i1 : Im K X2 (.ref t1) _ := .tup (.inl e2) (.cons (.int _) (.cons (.int _) (.nil)))
    refine ⟨by show 2 ≤ sizeLine; decide, fun t3 ht3 => ?_⟩
    have s4 := same_new (o := .tup [V.int 1, V.int 2]) ht3
    have e4 : (upd X2 t3 (.tup [V.int 1, V.int 2])) t3 = some (.tup [V.int 1, V.int 2]) := upd_same
    generalize upd X2 t3 (.tup [V.int 1, V.int 2]) = X4 at *
    replace i1 := Im.mono (tk_same s4) _ i1
    replace bt := bt.trans (but_same s4)
    replace u := u.same s4
    have i3 : Im K X4 (.ref t3) _ := .tup (.inl e4) (.cons (.int _) (.cons (.int _) (.nil)))
    refine ⟨by show 2 ≤ sizeLine; decide, fun t5 ht5 => ?_⟩
    have s6 := same_new (o := .tup [V.ref t1, V.ref t3]) ht5
    have e6 : (upd X4 t5 (.tup [V.ref t1, V.ref t3])) t5 = some (.tup [V.ref t1, V.ref t3]) := upd_same
    generalize upd X4 t5 (.tup [V.ref t1, V.ref t3]) = X6 at *
    replace i1 := Im.mono (tk_same s6) _ i1
    replace i3 := Im.mono (tk_same s6) _ i3
    replace bt := bt.trans (but_same s6)
    replace u := u.same s6
    have i5 : Im K X6 (.ref t5) _ := .tup (.inl e6) (.cons i1 (.cons i3 (.nil)))
    refine ⟨by show 2 ≤ sizeLine; decide, fun t7 ht7 => ?_⟩
    have s8 := same_new (o := .tup [V.int 0, V.int 1]) ht7
    have e8 : (upd X6 t7 (.tup [V.int 0, V.int 1])) t7 = some (.tup [V.int 0, V.int 1]) := upd_same
    generalize upd X6 t7 (.tup [V.int 0, V.int 1]) = X8 at *
    replace i5 := Im.mono (tk_same s8) _ i5
    replace bt := bt.trans (but_same s8)
    replace u := u.same s8
    have i7 : Im K X8 (.ref t7) _ := .tup (.inl e8) (.cons (.int _) (.cons (.int _) (.nil)))
    refine ⟨by show 2 ≤ sizeLine; decide, fun t9 ht9 => ?_⟩
    have s10 := same_new (o := .tup [V.int 1, V.int 1]) ht9
    have e10 : (upd X8 t9 (.tup [V.int 1, V.int 1])) t9 = some (.tup [V.int 1, V.int 1]) := upd_same
    generalize upd X8 t9 (.tup [V.int 1, V.int 1]) = X10 at *
    replace i5 := Im.mono (tk_same s10) _ i5
    replace i7 := Im.mono (tk_same s10) _ i7
    replace bt := bt.trans (but_same s10)
    replace u := u.same s10
    have i9 : Im K X10 (.ref t9) _ := .tup (.inl e10) (.cons (.int _) (.cons (.int _) (.nil)))
    refine ⟨by show 2 ≤ sizeLine; decide, fun t11 ht11 => ?_⟩
    have s12 := same_new (o := .tup [V.ref t7, V.ref t9]) ht11
    have e12 : (upd X10 t11 (.tup [V.ref t7, V.ref t9])) t11 = some (.tup [V.ref t7, V.ref t9]) := upd_same
    generalize upd X10 t11 (.tup [V.ref t7, V.ref t9]) = X12 at *
    replace i5 := Im.mono (tk_same s12) _ i5
    replace i7 := Im.mono (tk_same s12) _ i7
    replace i9 := Im.mono (tk_same s12) _ i9
    replace bt := bt.trans (but_same s12)
    replace u := u.same s12
    have i11 : Im K X12 (.ref t11) _ := .tup (.inl e12) (.cons i7 (.cons i9 (.nil)))
    refine ⟨by show 2 ≤ sizeLine; decide, fun t13 ht13 => ?_⟩
    have s14 := same_new (o := .tup [V.ref t5, V.ref t11]) ht13
    have e14 : (upd X12 t13 (.tup [V.ref t5, V.ref t11])) t13 = some (.tup [V.ref t5, V.ref t11]) := upd_same
    generalize upd X12 t13 (.tup [V.ref t5, V.ref t11]) = X14 at *
    replace i5 := Im.mono (tk_same s14) _ i5
    replace i11 := Im.mono (tk_same s14) _ i11
    replace bt := bt.trans (but_same s14)
    replace u := u.same s14
    have i13 : Im K X14 (.ref t13) _ := .tup (.inl e14) (.cons i5 (.cons i11 (.nil)))
    refine ⟨by show 2 ≤ sizeLine; decide, fun t15 ht15 => ?_⟩
    have s16 := same_new (o := .tup [V.int 1, V.int 1]) ht15
    have e16 : (upd X14 t15 (.tup [V.int 1, V.int 1])) t15 = some (.tup [V.int 1, V.int 1]) := upd_same
    generalize upd X14 t15 (.tup [V.int 1, V.int 1]) = X16 at *
    replace i13 := Im.mono (tk_same s16) _ i13
    replace bt := bt.trans (but_same s16)
    replace u := u.same s16
    have i15 : Im K X16 (.ref t15) _ := .tup (.inl e16) (.cons (.int _) (.cons (.int _) (.nil)))
    refine ⟨by show 2 ≤ sizeLine; decide, fun t17 ht17 => ?_⟩
    have s18 := same_new (o := .tup [V.int 3, V.int 2]) ht17
    have e18 : (upd X16 t17 (.tup [V.int 3, V.int 2])) t17 = some (.tup [V.int 3, V.int 2]) := upd_same
    generalize upd X16 t17 (.tup [V.int 3, V.int 2]) = X18 at *
    replace i13 := Im.mono (tk_same s18) _ i13
    replace i15 := Im.mono (tk_same s18) _ i15
    replace bt := bt.trans (but_same s18)
    replace u := u.same s18
    have i17 : Im K X18 (.ref t17) _ := .tup (.inl e18) (.cons (.int _) (.cons (.int _) (.nil)))
    refine ⟨by show 2 ≤ sizeLine; decide, fun t19 ht19 => ?_⟩
    have s20 := same_new (o := .tup [V.ref t15, V.ref t17]) ht19
    have e20 : (upd X18 t19 (.tup [V.ref t15, V.ref t17])) t19 = some (.tup [V.ref t15, V.ref t17]) := upd_same
    generalize upd X18 t19 (.tup [V.ref t15, V.ref t17]) = X20 at *
    replace i13 := Im.mono (tk_same s20) _ i13
    replace i15 := Im.mono (tk_same s20) _ i15
    replace i17 := Im.mono (tk_same s20) _ i17
    replace bt := bt.trans (but_same s20)
    replace u := u.same s20
    have i19 : Im K X20 (.ref t19) _ := .tup (.inl e20) (.cons i15 (.cons i17 (.nil)))
    have iA21 : Im K X20 (.ref t13) (mD A0) := i13
    have iB21 : Im K X20 (.ref t19) (vD t0) := i19
    refine ⟨fun _ => True, .ref t13, .ref t19, mD A0, vD t0, rfl, Im.da _ iA21, Im.da _ iB21, (fun _ _ _ => solv0), fun Y21 sy21 => ⟨fun j => absurd j (by rw [jm0]; decide), fun _ j => absurd j (by rw [jv0]; decide), fun _ _ j => absurd j (by rw [mf0]; decide), fun pk A' t' _ _ eA' et' _ ip21 => ?_⟩⟩
    have pki : Im K Y21 (.ref pk) (.tuple [.str "made", vD [1, 1]]) := by
      rw [← mD_inj eA', ← vD_inj et'] at ip21
      exact Eq.mp (congrArg (Im K Y21 (.ref pk)) told0) ip21
    replace bt := bt.trans (but_same sy21)
    replace u := u.same sy21
    have b0 : But c L H1 Y21 := bt
    have pk0 := pki
    generalize hKD : PyData.tuple [.str "made", vD [1, 1]] = KD at *
    refine ⟨6, rfl, by decide, by decide, ?_⟩
    refine for_it (walk_range (lo := 0) (n := 6)) (fun i σ H2 => ∃ y3 y4 y5 y6 y7 y8 y9 y10, σ = [some (.ref a), some (.ref c), some (.ref pk), y3, y4, y5, y6, y7, y8, y9, y10, none, none, none, none, none, none] ∧ Cup H2 c L (3000 + 1000 * (6 - i)) ∧ But c L Y21 H2 ∧ (i ≠ 0 → ∃ (la : Addr) (v0 v1 v2 : V) (d0 : PyData), y9 = some (V.ref la) ∧ NC c L la ∧ H2 la = some (.lst [v0, v1, v2]) ∧ Da K (NC c L) H2 v0 d0 ∧ OutB 3 d0)) ⟨none, none, none, none, none, none, none, none, rfl, u.less (by decide), But.refl c L _, fun h => absurd rfl h⟩ (fun _ _ _ _ _ => trivial) ?_ ?_
    · rintro i x σ H2 H3 hi ⟨y3, y4, y5, y6, y7, y8, y9, y10, rfl, u0, bt0, _⟩ ⟨rfl, rfl⟩
      have i6 : 6 - i = (6 - (i + 1)) + 1 := by omega
      rw [i6, Nat.mul_succ] at u0
      generalize hN : 3000 + 1000 * (6 - (i + 1)) = N at *
      replace u0 : Cup H3 c L (N + 1000) := u0.less (by omega)
      replace pki := Im.mono (bt0.tk u) _ pki
      clear bt u
      have bt : But c L Y21 H3 := bt0
      have u := u0
      clear bt0 u0
      refine ⟨.ref c, rfl, c, L, 6, N + 999, rfl, u, by decide, by decide, fun dm G1 dm0 dm1 u1 b1 => ?_⟩
      have fr22 : Ly.Fr (NC c L) _ _ := fr_but b1 u
      replace pki := Im.mono fr22.1 _ pki
      replace bt := bt.trans b1
      clear u
      have u := u1
      refine ⟨.ref c, rfl, c, L, 6, N + 998, rfl, u, by decide, by decide, fun ds G2 ds0 ds1 u2 b2 => ?_⟩
      have fr23 : Ly.Fr (NC c L) _ _ := fr_but b2 u
      replace pki := Im.mono fr23.1 _ pki
      replace bt := bt.trans b2
      clear u
      have u := u2
      obtain ⟨many, rfl⟩ : ∃ m : Nat, dm = (m : Int) := ⟨dm.toNat, by omega⟩
      obtain ⟨size, rfl⟩ : ∃ m : Nat, ds = (m : Int) := ⟨ds.toNat, by omega⟩
      have hm : many ≤ 5 := by omega
      have hs : size ≤ 5 := by omega
      refine ⟨by show 2 ≤ sizeLine; decide, fun tp htp => ?_⟩
      have s24 := same_new (o := (.tup [V.int (many : Nat), V.int (size : Nat)])) htp
      have e24 : (upd G2 tp ((.tup [V.int (many : Nat), V.int (size : Nat)]))) tp = some ((.tup [V.int (many : Nat), V.int (size : Nat)])) := upd_same
      generalize upd G2 tp ((.tup [V.int (many : Nat), V.int (size : Nat)])) = X24 at *
      replace pki := Im.mono (tk_same s24) _ pki
      replace bt := bt.trans (but_same s24)
      replace u := u.same s24
      refine ⟨tp, _, rfl, .of e24, rfl, .int many, _, rfl, .int size, _, rfl, rfl, ?_⟩
      have f1 := le125 hm hs
      refine ⟨.ref c, rfl, .int many, rfl, .int size, rfl, c, L, many, size, N + 840, rfl, hm, hs, u.less (by omega), fun v1 d1 G3 da1 ob1 u3 b3 => ?_⟩
      have fr25 : Ly.Fr (NC c L) _ _ := fr_but b3 u
      replace pki := Im.mono fr25.1 _ pki
      replace bt := bt.trans b3
      clear u
      have u := u3
      have f2 := le125 (show 1 ≤ 5 by decide) hs
      refine ⟨.ref c, rfl, .int size, rfl, c, L, 1, size, N + 680, rfl, by decide, hs, u.less (by omega), fun vr dr G4 dar obr u4 b4 => ⟨_, _, rfl, ?_⟩⟩
      have fr26 : Ly.Fr (NC c L) _ _ := fr_but b4 u
      replace da1 := Da.mono fr26 _ da1
      replace pki := Im.mono fr26.1 _ pki
      replace bt := bt.trans b4
      clear u
      have u := u4
      refine ⟨fun σ' H' => ∃ vv dv, σ' = [some (.ref a), some (.ref c), some (.ref pk), some (.int (0 + (i : Int))), some (.int many), some (.int size), some v1, some vr, some vv, y9, y10, none, none, none, none, none, none] ∧ H' = G4 ∧ Da K (NC c L) G4 vv dv ∧ smD dv ∧ ∀ t, dv = vD t → DrV t, ?_, ?_⟩
      · refine ⟨vr, rfl, vr, _, .type (tyName dr), _, jTup dr, rfl, .ty _, dp_ty dar.dp, kit_ty (kit_tup dr), jTup dr, rfl, ?_⟩
        have keep : ∃ vv dv, [some (V.ref a), some (.ref c), some (.ref pk), some (.int (0 + (i : Int))), some (.int many), some (.int size), some v1, some vr, some vr, y9, y10, none, none, none, none, none, none] = [some (.ref a), some (.ref c), some (.ref pk), some (.int (0 + (i : Int))), some (.int many), some (.int size), some v1, some vr, some vv, y9, y10, none, none, none, none, none, none] ∧ G4 = G4 ∧ Da K (NC c L) G4 vv dv ∧ smD dv ∧ ∀ t, dv = vD t → DrV t := ⟨vr, dr, rfl, rfl, dar, obr.1, obr.2.2⟩
        cases dar with
        | @tup b ys es hb hys =>
          refine iteT ⟨.ref b, rfl, b, ys, rfl, .inr hb.sq, rfl, _, rfl, ?_⟩
          have ly := hys.len
          by_cases h1 : ys.length = 1
          · rw [decide_eq_true (show V.int (ys.length : Nat) = V.int 1 by rw [h1]; rfl)]
            obtain ⟨e0, rfl⟩ : ∃ e0, es = [e0] := by
              match es, (show es.length = 1 by omega) with
              | [x], _ => exact ⟨x, rfl⟩
            cases hys with
            | @cons x0 xr _ _ i0 r0 =>
              cases r0
              exact iteT ⟨.ref b, rfl, b, _, 0, _, rfl, rfl, hb.sq, atI_nat (j := 0) rfl, x0, e0, rfl, rfl, i0, smAll_mem (smD_tup.mp obr.1) e0 (by simp), vec_row obr.2⟩
          · rw [decide_eq_false (show ¬ V.int (ys.length : Nat) = V.int 1 from fun z => h1 (by have := V.int.inj z; omega))]
            exact iteF ⟨.ref b, rfl, keep⟩
        | non => exact iteF (iteF ⟨_, rfl, keep⟩)
        | bl b => exact iteF (iteF ⟨_, rfl, keep⟩)
        | int b => exact iteF (iteF ⟨_, rfl, keep⟩)
        | str b => exact iteF (iteF ⟨_, rfl, keep⟩)
        | lst _ _ _ => exact iteF (iteF ⟨_, rfl, keep⟩)
      · rintro σ' H' ⟨vv, dv, rfl, rfl, dav, smv, drv⟩
        refine ⟨.ref c, rfl, .int size, rfl, .ref c, rfl, c, L, 4, N + 679, rfl, u, by decide, by decide, fun dz G5 dz0 dz1 u5 b5 => ?_⟩
        have fr27 : Ly.Fr (NC c L) _ _ := fr_but b5 u
        replace da1 := Da.mono fr27 _ da1
        replace dar := Da.mono fr27 _ dar
        replace dav := Da.mono fr27 _ dav
        replace pki := Im.mono fr27.1 _ pki
        replace bt := bt.trans b5
        clear u
        have u := u5
        obtain ⟨z4, rfl⟩ : ∃ m : Nat, dz = (m : Int) := ⟨dz.toNat, by omega⟩
        have f3 := le125 hs (show z4 ≤ 5 by omega)
        refine ⟨c, L, size, z4, N + 520, rfl, hs, by omega, u.less (by omega), fun w0 d0 G6 da0 ob0 u6 b6 => ?_⟩
        have fr28 : Ly.Fr (NC c L) _ _ := fr_but b6 u
        replace da1 := Da.mono fr28 _ da1
        replace dar := Da.mono fr28 _ dar
        replace dav := Da.mono fr28 _ dav
        replace pki := Im.mono fr28.1 _ pki
        replace bt := bt.trans b6
        clear u
        have u := u6
        refine ⟨.ref c, rfl, .ref c, rfl, c, L, 6, N + 519, rfl, u, by decide, by decide, fun dy G7 dy0 dy1 u7 b7 => ?_⟩
        have fr29 : Ly.Fr (NC c L) _ _ := fr_but b7 u
        replace da1 := Da.mono fr29 _ da1
        replace dar := Da.mono fr29 _ dar
        replace dav := Da.mono fr29 _ dav
        replace da0 := Da.mono fr29 _ da0
        replace pki := Im.mono fr29.1 _ pki
        replace bt := bt.trans b7
        clear u
        have u := u7
        obtain ⟨y6', rfl⟩ : ∃ m : Nat, dy = (m : Int) := ⟨dy.toNat, by omega⟩
        have f4 := le125 (show y6' ≤ 5 by omega) hs
        refine ⟨.int size, rfl, c, L, y6', size, N + 360, rfl, by omega, hs, u.less (by omega), fun w1 e1' G8 da1' ob1' u8 b8 => ?_⟩
        have fr30 : Ly.Fr (NC c L) _ _ := fr_but b8 u
        replace da1 := Da.mono fr30 _ da1
        replace dar := Da.mono fr30 _ dar
        replace dav := Da.mono fr30 _ dav
        replace da0 := Da.mono fr30 _ da0
        replace pki := Im.mono fr30.1 _ pki
        replace bt := bt.trans b8
        clear u
        have u := u8
        refine ⟨.ref c, rfl, c, L, N + 358, rfl, u, fun w2 A2 G9 i2 lg2 u9 b9 => ?_⟩
        have fr31 : Ly.Fr (NC c L) _ _ := fr_but b9 u
        replace da1 := Da.mono fr31 _ da1
        replace dar := Da.mono fr31 _ dar
        replace dav := Da.mono fr31 _ dav
        replace da0 := Da.mono fr31 _ da0
        replace da1' := Da.mono fr31 _ da1'
        replace pki := Im.mono fr31.1 _ pki
        replace bt := bt.trans b9
        clear u
        have u := u9
        refine ⟨by show 3 ≤ sizeLine; decide, fun la hla => ?_⟩
        have nla := u.ne hla
        have s32 := same_new (o := .lst [w0, w1, w2]) hla
        have e32 : (upd G9 la (.lst [w0, w1, w2])) la = some (.lst [w0, w1, w2]) := upd_same
        generalize upd G9 la (.lst [w0, w1, w2]) = X32 at *
        replace da1 := Da.mono (fr_same s32) _ da1
        replace dar := Da.mono (fr_same s32) _ dar
        replace dav := Da.mono (fr_same s32) _ dav
        replace da0 := Da.mono (fr_same s32) _ da0
        replace da1' := Da.mono (fr_same s32) _ da1'
        replace pki := Im.mono (tk_same s32) _ pki
        replace bt := bt.trans (but_same s32)
        replace u := u.same s32
        have eS := e32
        refine ⟨v1, rfl, vv, rfl, NC c L, 0, v1, vv, d1, dv, rfl, da1, dav, ob1.1, smv, by decide, (ok0D ob1.2 drv), fun Y33 sy33 => ⟨true, rfl, iteF ?_⟩⟩
        replace da1 := Da.mono (fr_same sy33) _ da1
        replace dar := Da.mono (fr_same sy33) _ dar
        replace dav := Da.mono (fr_same sy33) _ dav
        replace da0 := Da.mono (fr_same sy33) _ da0
        replace da1' := Da.mono (fr_same sy33) _ da1'
        replace pki := Im.mono (tk_same sy33) _ pki
        replace eS := sy33 _ _ eS
        replace bt := bt.trans (but_same sy33)
        replace u := u.same sy33
        refine ⟨v1, rfl, by show 0 ≤ sizeLine; decide, fun t34 ht34 => ?_⟩
        have s35 := same_new (o := .tup []) ht34
        have e35 : (upd Y33 t34 (.tup [])) t34 = some (.tup []) := upd_same
        generalize upd Y33 t34 (.tup []) = X35 at *
        replace da1 := Da.mono (fr_same s35) _ da1
        replace dar := Da.mono (fr_same s35) _ dar
        replace dav := Da.mono (fr_same s35) _ dav
        replace da0 := Da.mono (fr_same s35) _ da0
        replace da1' := Da.mono (fr_same s35) _ da1'
        replace pki := Im.mono (tk_same s35) _ pki
        replace eS := s35 _ _ eS
        replace bt := bt.trans (but_same s35)
        replace u := u.same s35
        have dn34 : Da K (NC c L) X35 (.ref t34) (.tuple []) := .tup (.inl e35) .nil
        refine ⟨NC c L, 2, v1, (.ref t34), d1, (.tuple []), rfl, da1, dn34, ob1.1, sm_nil, by decide, (ok2D ob1.2), fun Y36 sy36 => ⟨true, rfl, iteF ?_⟩⟩
        replace da1 := Da.mono (fr_same sy36) _ da1
        replace dar := Da.mono (fr_same sy36) _ dar
        replace dav := Da.mono (fr_same sy36) _ dav
        replace da0 := Da.mono (fr_same sy36) _ da0
        replace da1' := Da.mono (fr_same sy36) _ da1'
        replace pki := Im.mono (tk_same sy36) _ pki
        replace eS := sy36 _ _ eS
        replace bt := bt.trans (but_same sy36)
        replace u := u.same sy36
        refine ⟨v1, rfl, by show 0 ≤ sizeLine; decide, fun t37 ht37 => ?_⟩
        have s38 := same_new (o := .tup []) ht37
        have e38 : (upd Y36 t37 (.tup [])) t37 = some (.tup []) := upd_same
        generalize upd Y36 t37 (.tup []) = X38 at *
        replace da1 := Da.mono (fr_same s38) _ da1
        replace dar := Da.mono (fr_same s38) _ dar
        replace dav := Da.mono (fr_same s38) _ dav
        replace da0 := Da.mono (fr_same s38) _ da0
        replace da1' := Da.mono (fr_same s38) _ da1'
        replace pki := Im.mono (tk_same s38) _ pki
        replace eS := s38 _ _ eS
        replace bt := bt.trans (but_same s38)
        replace u := u.same s38
        have dn37 : Da K (NC c L) X38 (.ref t37) (.tuple []) := .tup (.inl e38) .nil
        refine ⟨NC c L, 3, v1, (.ref t37), d1, (.tuple []), rfl, da1, dn37, ob1.1, sm_nil, by decide, (ok3D ob1.2), fun Y39 sy39 => ⟨true, rfl, iteF ?_⟩⟩
        replace da1 := Da.mono (fr_same sy39) _ da1
        replace dar := Da.mono (fr_same sy39) _ dar
        replace dav := Da.mono (fr_same sy39) _ dav
        replace da0 := Da.mono (fr_same sy39) _ da0
        replace da1' := Da.mono (fr_same sy39) _ da1'
        replace pki := Im.mono (tk_same sy39) _ pki
        replace eS := sy39 _ _ eS
        replace bt := bt.trans (but_same sy39)
        replace u := u.same sy39
        refine ⟨v1, rfl, .ref la, rfl, la, _, 0, _, rfl, rfl, .of eS, atI_nat (j := 0) rfl, NC c L, 1, v1, w0, d1, d0, rfl, da1, da0, ob1.1, ob0.1, by decide, (ok1 (m3_mb ob1.2) (m3_mb ob0.2)), fun Y40 sy40 => ⟨true, rfl, iteF ?_⟩⟩
        replace da1 := Da.mono (fr_same sy40) _ da1
        replace dar := Da.mono (fr_same sy40) _ dar
        replace dav := Da.mono (fr_same sy40) _ dav
        replace da0 := Da.mono (fr_same sy40) _ da0
        replace da1' := Da.mono (fr_same sy40) _ da1'
        replace pki := Im.mono (tk_same sy40) _ pki
        replace eS := sy40 _ _ eS
        replace bt := bt.trans (but_same sy40)
        replace u := u.same sy40
        refine ⟨.ref la, rfl, la, _, 0, _, rfl, rfl, .of eS, atI_nat (j := 0) rfl, v1, rfl, NC c L, 1, w0, v1, d0, d1, rfl, da0, da1, ob0.1, ob1.1, by decide, (ok1 (m3_mb ob0.2) (m3_mb ob1.2)), fun Y41 sy41 => ⟨true, rfl, iteF ?_⟩⟩
        replace da1 := Da.mono (fr_same sy41) _ da1
        replace dar := Da.mono (fr_same sy41) _ dar
        replace dav := Da.mono (fr_same sy41) _ dav
        replace da0 := Da.mono (fr_same sy41) _ da0
        replace da1' := Da.mono (fr_same sy41) _ da1'
        replace pki := Im.mono (tk_same sy41) _ pki
        replace eS := sy41 _ _ eS
        replace bt := bt.trans (but_same sy41)
        replace u := u.same sy41
        refine ⟨v1, rfl, .ref la, rfl, la, _, 0, _, rfl, rfl, .of eS, atI_nat (j := 0) rfl, NC c L, 0, v1, w0, d1, d0, rfl, da1, da0, ob1.1, ob0.1, by decide, (ok0D ob1.2 ob0.2.2), fun Y42 sy42 => ⟨true, rfl, iteF ?_⟩⟩
        replace da1 := Da.mono (fr_same sy42) _ da1
        replace dar := Da.mono (fr_same sy42) _ dar
        replace dav := Da.mono (fr_same sy42) _ dav
        replace da0 := Da.mono (fr_same sy42) _ da0
        replace da1' := Da.mono (fr_same sy42) _ da1'
        replace pki := Im.mono (tk_same sy42) _ pki
        replace eS := sy42 _ _ eS
        replace bt := bt.trans (but_same sy42)
        replace u := u.same sy42
        have f5 := le125 hm hm
        refine ⟨.ref c, rfl, .int many, rfl, .int many, rfl, c, L, many, many, N + 200, rfl, hm, hm, u.less (by omega), fun vs4 ds4 F1 das obs u10 b10 => ?_⟩
        have fr43 : Ly.Fr (NC c L) _ _ := fr_but b10 u
        replace da1 := Da.mono fr43 _ da1
        replace dar := Da.mono fr43 _ dar
        replace dav := Da.mono fr43 _ dav
        replace da0 := Da.mono fr43 _ da0
        replace da1' := Da.mono fr43 _ da1'
        replace pki := Im.mono fr43.1 _ pki
        replace eS := b10 _ _ nla.1 nla.2 eS
        replace bt := bt.trans b10
        clear u
        have u := u10
        refine ⟨vs4, rfl, by show 0 ≤ sizeLine; decide, fun t44 ht44 => ?_⟩
        have s45 := same_new (o := .tup []) ht44
        have e45 : (upd F1 t44 (.tup [])) t44 = some (.tup []) := upd_same
        generalize upd F1 t44 (.tup []) = X45 at *
        replace da1 := Da.mono (fr_same s45) _ da1
        replace dar := Da.mono (fr_same s45) _ dar
        replace dav := Da.mono (fr_same s45) _ dav
        replace da0 := Da.mono (fr_same s45) _ da0
        replace da1' := Da.mono (fr_same s45) _ da1'
        replace das := Da.mono (fr_same s45) _ das
        replace pki := Im.mono (tk_same s45) _ pki
        replace eS := s45 _ _ eS
        replace bt := bt.trans (but_same s45)
        replace u := u.same s45
        have dn44 : Da K (NC c L) X45 (.ref t44) (.tuple []) := .tup (.inl e45) .nil
        refine ⟨NC c L, 3, vs4, (.ref t44), ds4, (.tuple []), rfl, das, dn44, obs.1, sm_nil, by decide, (ok3D obs.2), fun Y46 sy46 => ⟨true, rfl, iteF ?_⟩⟩
        replace da1 := Da.mono (fr_same sy46) _ da1
        replace dar := Da.mono (fr_same sy46) _ dar
        replace dav := Da.mono (fr_same sy46) _ dav
        replace da0 := Da.mono (fr_same sy46) _ da0
        replace da1' := Da.mono (fr_same sy46) _ da1'
        replace das := Da.mono (fr_same sy46) _ das
        replace pki := Im.mono (tk_same sy46) _ pki
        replace eS := sy46 _ _ eS
        replace bt := bt.trans (but_same sy46)
        replace u := u.same sy46
        refine ⟨v1, rfl, .ref la, rfl, la, _, 1, _, rfl, rfl, .of eS, atI_nat (j := 1) rfl, NC c L, 1, v1, w1, d1, e1', rfl, da1, da1', ob1.1, ob1'.1, by decide, (ok1 (m3_mb ob1.2) (m3_mb ob1'.2)), fun Y47 sy47 => ⟨true, rfl, iteF ?_⟩⟩
        replace da1 := Da.mono (fr_same sy47) _ da1
        replace dar := Da.mono (fr_same sy47) _ dar
        replace dav := Da.mono (fr_same sy47) _ dav
        replace da0 := Da.mono (fr_same sy47) _ da0
        replace da1' := Da.mono (fr_same sy47) _ da1'
        replace das := Da.mono (fr_same sy47) _ das
        replace pki := Im.mono (tk_same sy47) _ pki
        replace eS := sy47 _ _ eS
        replace bt := bt.trans (but_same sy47)
        replace u := u.same sy47
        refine ⟨.ref la, rfl, la, _, 1, _, rfl, rfl, .of eS, atI_nat (j := 1) rfl, vv, rfl, NC c L, 0, w1, vv, e1', dv, rfl, da1', dav, ob1'.1, smv, by decide, (ok0D ob1'.2 drv), fun Y48 sy48 => ⟨true, rfl, iteF ?_⟩⟩
        replace da1 := Da.mono (fr_same sy48) _ da1
        replace dar := Da.mono (fr_same sy48) _ dar
        replace dav := Da.mono (fr_same sy48) _ dav
        replace da0 := Da.mono (fr_same sy48) _ da0
        replace da1' := Da.mono (fr_same sy48) _ da1'
        replace das := Da.mono (fr_same sy48) _ das
        replace pki := Im.mono (tk_same sy48) _ pki
        replace eS := sy48 _ _ eS
        replace bt := bt.trans (but_same sy48)
        replace u := u.same sy48
        have done : ∀ {Z : Hp}, Same Y48 Z → ∃ y3 y4 y5 y6 y7 y8 y9 y10, [some (V.ref a), some (V.ref c), some (V.ref pk), some (V.int (0 + (i : Int))), some (V.int many), some (V.int size), some v1, some vr, some vv, some (V.ref la), some vs4, none, none, none, none, none, none] = [some (.ref a), some (.ref c), some (.ref pk), y3, y4, y5, y6, y7, y8, y9, y10, none, none, none, none, none, none] ∧ Cup Z c L N ∧ But c L Y21 Z ∧ (i + 1 ≠ 0 → ∃ (la : Addr) (v0 v1 v2 : V) (d0 : PyData), y9 = some (V.ref la) ∧ NC c L la ∧ Z la = some (.lst [v0, v1, v2]) ∧ Da K (NC c L) Z v0 d0 ∧ OutB 3 d0) := fun sz => ⟨_, _, _, _, _, _, _, _, rfl, (u.same sz).less (by omega), bt.trans (but_same sz), fun _ => ⟨la, w0, w1, w2, d0, rfl, nla, sz _ _ eS, Da.mono (fr_same sz) _ da0, ob0⟩⟩
        have sm : Same Y48 Y48 := Same.refl _
        refine ⟨.int many, rfl, _, _, rfl, rfl, _, rfl, ?_⟩
        by_cases hm0 : (many : Int) > 0
        · rw [decide_eq_true hm0]
          refine iteT ?_
          refine ⟨by show 2 ≤ sizeLine; decide, fun t49 ht49 => ?_⟩
          have s50 := same_new (o := .tup [V.int 0, V.int 1]) ht49
          have e50 : (upd Y48 t49 (.tup [V.int 0, V.int 1])) t49 = some (.tup [V.int 0, V.int 1]) := upd_same
          generalize upd Y48 t49 (.tup [V.int 0, V.int 1]) = X50 at *
          replace da1 := Da.mono (fr_same s50) _ da1
          replace dar := Da.mono (fr_same s50) _ dar
          replace dav := Da.mono (fr_same s50) _ dav
          replace da0 := Da.mono (fr_same s50) _ da0
          replace da1' := Da.mono (fr_same s50) _ da1'
          replace das := Da.mono (fr_same s50) _ das
          replace pki := Im.mono (tk_same s50) _ pki
          replace eS := s50 _ _ eS
          replace bt := bt.trans (but_same s50)
          replace u := u.same s50
          replace sm := sm.trans s50
          have i49 : Im K X50 (.ref t49) _ := .tup (.inl e50) (.cons (.int _) (.cons (.int _) (.nil)))
          refine ⟨by show 1 ≤ sizeLine; decide, fun t51 ht51 => ⟨.int many, rfl, ?_⟩⟩
          have s52 := same_new (o := .tup [V.ref t49]) ht51
          have e52 : (upd X50 t51 (.tup [V.ref t49])) t51 = some (.tup [V.ref t49]) := upd_same
          generalize upd X50 t51 (.tup [V.ref t49]) = X52 at *
          replace da1 := Da.mono (fr_same s52) _ da1
          replace dar := Da.mono (fr_same s52) _ dar
          replace dav := Da.mono (fr_same s52) _ dav
          replace da0 := Da.mono (fr_same s52) _ da0
          replace da1' := Da.mono (fr_same s52) _ da1'
          replace das := Da.mono (fr_same s52) _ das
          replace pki := Im.mono (tk_same s52) _ pki
          replace i49 := Im.mono (tk_same s52) _ i49
          replace eS := s52 _ _ eS
          replace bt := bt.trans (but_same s52)
          replace u := u.same s52
          replace sm := sm.trans s52
          refine rep_any (.inl e52) (by omega) fun pz Z1 sz1 iz => ?_
          replace da1 := Da.mono (fr_same sz1) _ da1
          replace dar := Da.mono (fr_same sz1) _ dar
          replace dav := Da.mono (fr_same sz1) _ dav
          replace da0 := Da.mono (fr_same sz1) _ da0
          replace da1' := Da.mono (fr_same sz1) _ da1'
          replace das := Da.mono (fr_same sz1) _ das
          replace pki := Im.mono (tk_same sz1) _ pki
          replace i49 := Im.mono (tk_same sz1) _ i49
          replace eS := sz1 _ _ eS
          replace bt := bt.trans (but_same sz1)
          replace u := u.same sz1
          replace sm := sm.trans sz1
          have iz0 : Im K Z1 (.ref pz) (vD (List.replicate many 0)) := .tup iz (all_rep (f := rD) i49 many)
          refine ⟨by show 1 ≤ sizeLine; decide, fun tz htz => ?_⟩
          have s53 := same_new (o := .tup [V.ref pz]) htz
          have e53 : (upd Z1 tz (.tup [V.ref pz])) tz = some (.tup [V.ref pz]) := upd_same
          generalize upd Z1 tz (.tup [V.ref pz]) = X53 at *
          replace da1 := Da.mono (fr_same s53) _ da1
          replace dar := Da.mono (fr_same s53) _ dar
          replace dav := Da.mono (fr_same s53) _ dav
          replace da0 := Da.mono (fr_same s53) _ da0
          replace da1' := Da.mono (fr_same s53) _ da1'
          replace das := Da.mono (fr_same s53) _ das
          replace pki := Im.mono (tk_same s53) _ pki
          replace iz0 := Im.mono (tk_same s53) _ iz0
          replace eS := s53 _ _ eS
          replace bt := bt.trans (but_same s53)
          replace u := u.same s53
          replace sm := sm.trans s53
          have itz : ITup K X53 tz [V.ref pz] := .inl e53
          refine ⟨by show 2 ≤ sizeLine; decide, fun t54 ht54 => ?_⟩
          have s55 := same_new (o := .tup [V.int 1, V.int 1]) ht54
          have e55 : (upd X53 t54 (.tup [V.int 1, V.int 1])) t54 = some (.tup [V.int 1, V.int 1]) := upd_same
          generalize upd X53 t54 (.tup [V.int 1, V.int 1]) = X55 at *
          replace da1 := Da.mono (fr_same s55) _ da1
          replace dar := Da.mono (fr_same s55) _ dar
          replace dav := Da.mono (fr_same s55) _ dav
          replace da0 := Da.mono (fr_same s55) _ da0
          replace da1' := Da.mono (fr_same s55) _ da1'
          replace das := Da.mono (fr_same s55) _ das
          replace pki := Im.mono (tk_same s55) _ pki
          replace iz0 := Im.mono (tk_same s55) _ iz0
          replace eS := s55 _ _ eS
          replace bt := bt.trans (but_same s55)
          replace u := u.same s55
          replace sm := sm.trans s55
          have i54 : Im K X55 (.ref t54) _ := .tup (.inl e55) (.cons (.int _) (.cons (.int _) (.nil)))
          replace itz := itz.mono (tk_same s55)
          refine ⟨by show 1 ≤ sizeLine; decide, fun t56 ht56 => ⟨.int many, rfl, ?_⟩⟩
          have s57 := same_new (o := .tup [V.ref t54]) ht56
          have e57 : (upd X55 t56 (.tup [V.ref t54])) t56 = some (.tup [V.ref t54]) := upd_same
          generalize upd X55 t56 (.tup [V.ref t54]) = X57 at *
          replace da1 := Da.mono (fr_same s57) _ da1
          replace dar := Da.mono (fr_same s57) _ dar
          replace dav := Da.mono (fr_same s57) _ dav
          replace da0 := Da.mono (fr_same s57) _ da0
          replace da1' := Da.mono (fr_same s57) _ da1'
          replace das := Da.mono (fr_same s57) _ das
          replace pki := Im.mono (tk_same s57) _ pki
          replace iz0 := Im.mono (tk_same s57) _ iz0
          replace i54 := Im.mono (tk_same s57) _ i54
          replace eS := s57 _ _ eS
          replace bt := bt.trans (but_same s57)
          replace u := u.same s57
          replace sm := sm.trans s57
          replace itz := itz.mono (tk_same s57)
          refine rep_any (.inl e57) (by omega) fun po Z2 sz2 io => ?_
          replace da1 := Da.mono (fr_same sz2) _ da1
          replace dar := Da.mono (fr_same sz2) _ dar
          replace dav := Da.mono (fr_same sz2) _ dav
          replace da0 := Da.mono (fr_same sz2) _ da0
          replace da1' := Da.mono (fr_same sz2) _ da1'
          replace das := Da.mono (fr_same sz2) _ das
          replace pki := Im.mono (tk_same sz2) _ pki
          replace iz0 := Im.mono (tk_same sz2) _ iz0
          replace i54 := Im.mono (tk_same sz2) _ i54
          replace eS := sz2 _ _ eS
          replace bt := bt.trans (but_same sz2)
          replace u := u.same sz2
          replace sm := sm.trans sz2
          replace itz := itz.mono (tk_same sz2)
          have io0 : Im K Z2 (.ref po) (vD (List.replicate many 1)) := .tup io (all_rep (f := rD) (a := 1) i54 many)
          refine ⟨by show 1 ≤ sizeLine; decide, fun tw htw => ⟨.int many, rfl, _, _, rfl, rfl, ?_⟩⟩
          have s58 := same_new (o := .tup [V.ref po]) htw
          have e58 : (upd Z2 tw (.tup [V.ref po])) tw = some (.tup [V.ref po]) := upd_same
          generalize upd Z2 tw (.tup [V.ref po]) = X58 at *
          replace da1 := Da.mono (fr_same s58) _ da1
          replace dar := Da.mono (fr_same s58) _ dar
          replace dav := Da.mono (fr_same s58) _ dav
          replace da0 := Da.mono (fr_same s58) _ da0
          replace da1' := Da.mono (fr_same s58) _ da1'
          replace das := Da.mono (fr_same s58) _ das
          replace pki := Im.mono (tk_same s58) _ pki
          replace iz0 := Im.mono (tk_same s58) _ iz0
          replace io0 := Im.mono (tk_same s58) _ io0
          replace eS := s58 _ _ eS
          replace bt := bt.trans (but_same s58)
          replace u := u.same s58
          replace sm := sm.trans s58
          replace itz := itz.mono (tk_same s58)
          change rRepTA K (.ref tw) (.int ((many : Int) - 1)) _ _
          rw [show ((many : Int) - 1) = ((many - 1 : Nat) : Int) by omega]
          refine rep_any (.inl e58) (by omega) fun pw Z3 sz3 iw => ?_
          replace da1 := Da.mono (fr_same sz3) _ da1
          replace dar := Da.mono (fr_same sz3) _ dar
          replace dav := Da.mono (fr_same sz3) _ dav
          replace da0 := Da.mono (fr_same sz3) _ da0
          replace da1' := Da.mono (fr_same sz3) _ da1'
          replace das := Da.mono (fr_same sz3) _ das
          replace pki := Im.mono (tk_same sz3) _ pki
          replace iz0 := Im.mono (tk_same sz3) _ iz0
          replace io0 := Im.mono (tk_same sz3) _ io0
          replace eS := sz3 _ _ eS
          replace bt := bt.trans (but_same sz3)
          replace u := u.same sz3
          replace sm := sm.trans sz3
          replace itz := itz.mono (tk_same sz3)
          refine cat_any itz iw (by rw [List.length_replicate]; show 1 + _ ≤ 1000; omega) fun pm Z4 sz4 im => ?_
          replace da1 := Da.mono (fr_same sz4) _ da1
          replace dar := Da.mono (fr_same sz4) _ dar
          replace dav := Da.mono (fr_same sz4) _ dav
          replace da0 := Da.mono (fr_same sz4) _ da0
          replace da1' := Da.mono (fr_same sz4) _ da1'
          replace das := Da.mono (fr_same sz4) _ das
          replace pki := Im.mono (tk_same sz4) _ pki
          replace iz0 := Im.mono (tk_same sz4) _ iz0
          replace io0 := Im.mono (tk_same sz4) _ io0
          replace eS := sz4 _ _ eS
          replace bt := bt.trans (but_same sz4)
          replace u := u.same sz4
          replace sm := sm.trans sz4
          have imz : Im K Z4 (.ref pm) (mD (zeroOne many)) := .tup im (.cons iz0 (all_rep (f := vD) io0 (many - 1)))
          refine ⟨by show 0 ≤ sizeLine; decide, fun t59 ht59 => ?_⟩
          have s60 := same_new (o := .tup []) ht59
          have e60 : (upd Z4 t59 (.tup [])) t59 = some (.tup []) := upd_same
          generalize upd Z4 t59 (.tup []) = X60 at *
          replace da1 := Da.mono (fr_same s60) _ da1
          replace dar := Da.mono (fr_same s60) _ dar
          replace dav := Da.mono (fr_same s60) _ dav
          replace da0 := Da.mono (fr_same s60) _ da0
          replace da1' := Da.mono (fr_same s60) _ da1'
          replace das := Da.mono (fr_same s60) _ das
          replace pki := Im.mono (tk_same s60) _ pki
          replace iz0 := Im.mono (tk_same s60) _ iz0
          replace io0 := Im.mono (tk_same s60) _ io0
          replace imz := Im.mono (tk_same s60) _ imz
          replace eS := s60 _ _ eS
          replace bt := bt.trans (but_same s60)
          replace u := u.same s60
          replace sm := sm.trans s60
          have dn59 : Da K (NC c L) X60 (.ref t59) (.tuple []) := .tup (.inl e60) .nil
          refine ⟨NC c L, 3, (.ref pm), (.ref t59), (mD (zeroOne many)), (.tuple []), rfl, (Im.da _ imz), dn59, zo_sm, sm_nil, by decide, (ok3T zo_tn), fun Y61 sy61 => ⟨true, rfl, iteF ?_⟩⟩
          replace da1 := Da.mono (fr_same sy61) _ da1
          replace dar := Da.mono (fr_same sy61) _ dar
          replace dav := Da.mono (fr_same sy61) _ dav
          replace da0 := Da.mono (fr_same sy61) _ da0
          replace da1' := Da.mono (fr_same sy61) _ da1'
          replace das := Da.mono (fr_same sy61) _ das
          replace pki := Im.mono (tk_same sy61) _ pki
          replace iz0 := Im.mono (tk_same sy61) _ iz0
          replace io0 := Im.mono (tk_same sy61) _ io0
          replace imz := Im.mono (tk_same sy61) _ imz
          replace eS := sy61 _ _ eS
          replace bt := bt.trans (but_same sy61)
          replace u := u.same sy61
          replace sm := sm.trans sy61
          exact done sm
        · rw [decide_eq_false hm0]
          exact iteF (iteF (done (Same.refl _)))
    · rintro σ H2 ⟨y3, y4, y5, y6, y7, y8, y9, y10, rfl, u0, bt0, hs0⟩
      obtain ⟨la, v0, v1, v2, d0, rfl, nla, eS, da0, ob0⟩ := hs0 (by decide)
      replace u0 : Cup H2 c L 3000 := u0.less (by decide)
      replace pki := Im.mono (bt0.tk u) _ pki
      clear bt u hs0
      have bt : But c L Y21 H2 := bt0
      have u := u0
      clear bt0 u0
      refine ⟨.ref c, rfl, c, L, 2998, rfl, u, fun w1 A1 G1 iw1 g1 u1 b1 => ?_⟩
      have fr62 : Ly.Fr (NC c L) _ _ := fr_but b1 u
      replace da0 := Da.mono fr62 _ da0
      replace pki := Im.mono fr62.1 _ pki
      replace eS := b1 _ _ nla.1 nla.2 eS
      replace bt := bt.trans b1
      clear u
      have u := u1
      refine ⟨.ref c, rfl, c, L, 2996, rfl, u.less (by decide), fun w2 A2 G2 iw2 g2 u2 b2 => ?_⟩
      have fr63 : Ly.Fr (NC c L) _ _ := fr_but b2 u
      replace da0 := Da.mono fr63 _ da0
      replace pki := Im.mono fr63.1 _ pki
      replace iw1 := Im.mono fr63.1 _ iw1
      replace eS := b2 _ _ nla.1 nla.2 eS
      replace bt := bt.trans b2
      clear u
      have u := u2
      refine ⟨by show 2 ≤ sizeLine; decide, fun lp hlp => ?_⟩
      have s64 := same_new (o := .lst [w1, w2]) hlp
      have e64 : (upd G2 lp (.lst [w1, w2])) lp = some (.lst [w1, w2]) := upd_same
      generalize upd G2 lp (.lst [w1, w2]) = X64 at *
      replace da0 := Da.mono (fr_same s64) _ da0
      replace pki := Im.mono (tk_same s64) _ pki
      replace iw1 := Im.mono (tk_same s64) _ iw1
      replace iw2 := Im.mono (tk_same s64) _ iw2
      replace eS := s64 _ _ eS
      replace bt := bt.trans (but_same s64)
      replace u := u.same s64
      have eL := e64
      refine ⟨lp, rfl, ⟨_, .of eL⟩, ?_⟩
      refine for_it (walk_list (xs := [w1, w2])) (fun i σ H3 => ∃ y11 y12, σ = [some (.ref a), some (.ref c), some (.ref pk), y3, y4, y5, y6, y7, y8, some (.ref la), y10, y11, y12, none, none, none, none] ∧ Same X64 H3) ⟨none, none, rfl, Same.refl _⟩ (fun i σ H3 _ ⟨_, _, _, s⟩ => .of (s _ _ eL)) ?_ ?_
      · rintro i x σ H3 H4 hi ⟨y11, y12, rfl, s0⟩ ⟨rfl, hx⟩
        have hT : ∃ A, Im K X64 x (mD A) ∧ Long A := by
          have h2 : i = 0 ∨ i = 1 := by
            have : i < 2 := hi
            omega
          rcases h2 with rfl | rfl
          · obtain rfl := Option.some.inj hx
            exact ⟨A1, iw1, g1⟩
          · obtain rfl := Option.some.inj hx
            exact ⟨A2, iw2, g2⟩
        obtain ⟨A, imA, lgA⟩ := hT
        replace imA := Im.mono (tk_same s0) _ imA
        replace da0 := Da.mono (fr_same s0) _ da0
        replace eS := s0 _ _ eS
        have sm := s0
        obtain ⟨r0, AR, rfl⟩ : ∃ r0 AR, A = r0 :: AR := by
          match A, lgA.pos with
          | x :: y, _ => exact ⟨x, y, rfl⟩
        obtain ⟨p, xs, rfl, hp, hxs⟩ := mat_inv imA
        obtain ⟨x0, hx0, i0⟩ := all_at (i := 0) hxs rfl
        obtain ⟨q0, ys, rfl, hq, hys⟩ := vec_inv i0
        refine ⟨.ref p, rfl, p, xs, 0, _, rfl, rfl, hp.sq, atI_nat (j := 0) hx0, .ref q0, _, .type "tuple", _, true, rfl, .ty _, ity hq, kit_ty (by decide +kernel), true, rfl, iteT ⟨.ref p, rfl, p, xs, 0, _, rfl, rfl, hp.sq, atI_nat (j := 0) hx0, ?_⟩⟩
        have tnA := long_tn lgA
        have tnL := tn_vec (lgA.tiny r0 (List.mem_cons_self ..))
        have smA := sm_mat lgA.sm
        have smL := sm_vec (lgA.sm r0 (List.mem_cons_self ..))
        have daA : Da K (NC c L) H4 (.ref p) (mD (r0 :: AR)) := Im.da _ imA
        have daL : Da K (NC c L) H4 (.ref q0) (vD r0) := Im.da _ i0
        refine ⟨.ref p, rfl, by show 0 ≤ sizeLine; decide, fun t65 ht65 => ?_⟩
        have s66 := same_new (o := .tup []) ht65
        have e66 : (upd H4 t65 (.tup [])) t65 = some (.tup []) := upd_same
        generalize upd H4 t65 (.tup []) = X66 at *
        replace da0 := Da.mono (fr_same s66) _ da0
        replace daA := Da.mono (fr_same s66) _ daA
        replace daL := Da.mono (fr_same s66) _ daL
        replace eS := s66 _ _ eS
        replace sm := sm.trans s66
        have dn65 : Da K (NC c L) X66 (.ref t65) (.tuple []) := .tup (.inl e66) .nil
        refine ⟨NC c L, 2, (.ref p), (.ref t65), (mD (r0 :: AR)), (.tuple []), rfl, daA, dn65, smA, sm_nil, by decide, (ok2T tnA), fun Y67 sy67 => ⟨true, rfl, iteF ?_⟩⟩
        replace da0 := Da.mono (fr_same sy67) _ da0
        replace daA := Da.mono (fr_same sy67) _ daA
        replace daL := Da.mono (fr_same sy67) _ daL
        replace eS := sy67 _ _ eS
        replace sm := sm.trans sy67
        refine ⟨.ref p, rfl, .ref q0, rfl, NC c L, 0, (.ref p), (.ref q0), (mD (r0 :: AR)), (vD r0), rfl, daA, daL, smA, smL, by decide, (ok0T tnA tnL), fun Y68 sy68 => ⟨true, rfl, iteF ?_⟩⟩
        replace da0 := Da.mono (fr_same sy68) _ da0
        replace daA := Da.mono (fr_same sy68) _ daA
        replace daL := Da.mono (fr_same sy68) _ daL
        replace eS := sy68 _ _ eS
        replace sm := sm.trans sy68
        refine ⟨.ref la, rfl, la, _, 0, _, rfl, rfl, .of eS, atI_nat (j := 0) rfl, .ref p, rfl, NC c L, 1, v0, (.ref p), d0, (mD (r0 :: AR)), rfl, da0, daA, ob0.1, smA, by decide, (ok1 (m3_mb ob0.2) (fun A e => mb_tiny (tnA A e))), fun Y69 sy69 => ⟨true, rfl, iteF ?_⟩⟩
        replace da0 := Da.mono (fr_same sy69) _ da0
        replace daA := Da.mono (fr_same sy69) _ daA
        replace daL := Da.mono (fr_same sy69) _ daL
        replace eS := sy69 _ _ eS
        replace sm := sm.trans sy69
        refine ⟨.ref p, rfl, by show 0 ≤ sizeLine; decide, fun t70 ht70 => ?_⟩
        have s71 := same_new (o := .tup []) ht70
        have e71 : (upd Y69 t70 (.tup [])) t70 = some (.tup []) := upd_same
        generalize upd Y69 t70 (.tup []) = X71 at *
        replace da0 := Da.mono (fr_same s71) _ da0
        replace daA := Da.mono (fr_same s71) _ daA
        replace daL := Da.mono (fr_same s71) _ daL
        replace eS := s71 _ _ eS
        replace sm := sm.trans s71
        have dn70 : Da K (NC c L) X71 (.ref t70) (.tuple []) := .tup (.inl e71) .nil
        refine ⟨NC c L, 3, (.ref p), (.ref t70), (mD (r0 :: AR)), (.tuple []), rfl, daA, dn70, smA, sm_nil, by decide, (ok3T tnA), fun Y72 sy72 => ⟨true, rfl, iteF ?_⟩⟩
        replace da0 := Da.mono (fr_same sy72) _ da0
        replace daA := Da.mono (fr_same sy72) _ daA
        replace daL := Da.mono (fr_same sy72) _ daL
        replace eS := sy72 _ _ eS
        replace sm := sm.trans sy72
        refine ⟨by show 0 ≤ sizeLine; decide, fun t73 ht73 => ?_⟩
        have s74 := same_new (o := .tup []) ht73
        have e74 : (upd Y72 t73 (.tup [])) t73 = some (.tup []) := upd_same
        generalize upd Y72 t73 (.tup []) = X74 at *
        replace da0 := Da.mono (fr_same s74) _ da0
        replace daA := Da.mono (fr_same s74) _ daA
        replace daL := Da.mono (fr_same s74) _ daL
        replace eS := s74 _ _ eS
        replace sm := sm.trans s74
        have dn73 : Da K (NC c L) X74 (.ref t73) (.tuple []) := .tup (.inl e74) .nil
        refine ⟨.ref q0, rfl, NC c L, 0, (.ref t73), (.ref q0), (.tuple []), (vD r0), rfl, dn73, daL, sm_nil, smL, by decide, (ok0T nil_tn tnL), fun Y75 sy75 => ⟨true, rfl, iteF ?_⟩⟩
        replace da0 := Da.mono (fr_same sy75) _ da0
        replace daA := Da.mono (fr_same sy75) _ daA
        replace daL := Da.mono (fr_same sy75) _ daL
        replace eS := sy75 _ _ eS
        replace sm := sm.trans sy75
        refine ⟨by show 0 ≤ sizeLine; decide, fun t76 ht76 => ?_⟩
        have s77 := same_new (o := .tup []) ht76
        have e77 : (upd Y75 t76 (.tup [])) t76 = some (.tup []) := upd_same
        generalize upd Y75 t76 (.tup []) = X77 at *
        replace da0 := Da.mono (fr_same s77) _ da0
        replace daA := Da.mono (fr_same s77) _ daA
        replace daL := Da.mono (fr_same s77) _ daL
        replace eS := s77 _ _ eS
        replace sm := sm.trans s77
        have dn76 : Da K (NC c L) X77 (.ref t76) (.tuple []) := .tup (.inl e77) .nil
        refine ⟨.ref p, rfl, NC c L, 1, (.ref t76), (.ref p), (.tuple []), (mD (r0 :: AR)), rfl, dn76, daA, sm_nil, smA, by decide, (ok1 (fun A e => mb_tiny (nil_tn A e)) (fun A e => mb_tiny (tnA A e))), fun Y78 sy78 => ⟨true, rfl, iteF ?_⟩⟩
        replace da0 := Da.mono (fr_same sy78) _ da0
        replace daA := Da.mono (fr_same sy78) _ daA
        replace daL := Da.mono (fr_same sy78) _ daL
        replace eS := sy78 _ _ eS
        replace sm := sm.trans sy78
        refine ⟨.ref p, rfl, by show 0 ≤ sizeLine; decide, fun t79 ht79 => ?_⟩
        have s80 := same_new (o := .tup []) ht79
        have e80 : (upd Y78 t79 (.tup [])) t79 = some (.tup []) := upd_same
        generalize upd Y78 t79 (.tup []) = X80 at *
        replace da0 := Da.mono (fr_same s80) _ da0
        replace daA := Da.mono (fr_same s80) _ daA
        replace daL := Da.mono (fr_same s80) _ daL
        replace eS := s80 _ _ eS
        replace sm := sm.trans s80
        have dn79 : Da K (NC c L) X80 (.ref t79) (.tuple []) := .tup (.inl e80) .nil
        refine ⟨NC c L, 1, (.ref p), (.ref t79), (mD (r0 :: AR)), (.tuple []), rfl, daA, dn79, smA, sm_nil, by decide, (ok1 (fun A e => mb_tiny (tnA A e)) (fun A e => mb_tiny (nil_tn A e))), fun Y81 sy81 => ⟨true, rfl, iteF ?_⟩⟩
        replace da0 := Da.mono (fr_same sy81) _ da0
        replace daA := Da.mono (fr_same sy81) _ daA
        replace daL := Da.mono (fr_same sy81) _ daL
        replace eS := sy81 _ _ eS
        replace sm := sm.trans sy81
        exact ⟨_, _, rfl, sm⟩
      · rintro σ H3 ⟨y11, y12, rfl, s0⟩
        replace pki := Im.mono (tk_same s0) _ pki
        clear da0 eS iw1 iw2 eL bt u
        refine ⟨by show 0 ≤ sizeLine; decide, fun lu hlu => ?_⟩
        have s82 := same_new (o := .lst []) hlu
        have e82 : (upd H3 lu (.lst [])) lu = some (.lst []) := upd_same
        generalize upd H3 lu (.lst []) = X82 at *
        replace pki := Im.mono (tk_same s82) _ pki
        have eU := e82
        refine ⟨by show 2 ≤ sizeLine; decide, fun tt htt => ?_⟩
        have s83 := same_new (o := .tup [.int 48, .int 49]) htt
        have e83 : (upd X82 tt (.tup [.int 48, .int 49])) tt = some (.tup [.int 48, .int 49]) := upd_same
        generalize upd X82 tt (.tup [.int 48, .int 49]) = X83 at *
        replace pki := Im.mono (tk_same s83) _ pki
        have eT := e83
        replace eU := s83 _ _ eU
        refine ⟨tt, rfl, ⟨_, .of eT⟩, ?_⟩
        have tkb : ∀ {H4 : Hp}, Bar lu X83 H4 → TK X83 H4 := fun b => b.tk eU
        refine for_it (walk_tup (xs := [.int 48, .int 49])) (fun i σ H4 => ∃ y5 us, σ = [some (.ref a), some (.ref c), some (.ref pk), y3, y4, y5, y6, y7, y8, some (.ref la), y10, y11, y12, some (.ref lu), none, none, none] ∧ Bar lu X83 H4 ∧ H4 lu = some (.lst us) ∧ us.length = i ∧ ∀ (j : Nat) (v : V), us[j]? = some v → Im K H4 v (mD (unitM (48 + j)))) ⟨_, [], rfl, fun _ _ _ z => z, eU, rfl, fun j v z => by simp at z⟩ (fun i σ H4 _ ⟨_, _, _, b, _⟩ => .of (tkb b _ _ eT)) ?_ ?_
        · rintro i x σ H4 H5 hi ⟨y5', us, rfl, bb, eU4, lus, ims⟩ ⟨rfl, hx⟩
          have hi2 : i < 2 := hi
          have hx2 : x = .int ((48 + i : Nat) : Int) := by
            have h2 : i = 0 ∨ i = 1 := by omega
            rcases h2 with rfl | rfl
            · exact (Option.some.inj hx).symm
            · exact (Option.some.inj hx).symm
          subst hx2
          generalize hn : 48 + i = n at *
          have n49 : n ≤ 49 := by omega
          refine ⟨.ref lu, rfl, .inl ⟨rfl, _, .of eU4⟩, .int n, rfl, n, rfl, by omega, by omega, fun D hD => ?_⟩
          have nDu : lu ≠ D := ne_of_none eU4 hD
          refine lc_all (walk_range (lo := 0) (n := n)) (fun k H6 => Same H5 H6 ∧ ∃ acc, H6 D = some (.lst acc) ∧ ImAll K H6 acc (((unitM n).take k).map vD)) ⟨same_new hD, [], upd_same, .nil⟩ (fun _ _ _ _ => trivial) (fun k y H6 H7 hk z yy => ?_) (fun H6 z => ?_)
          · obtain ⟨sm, acc, eD, ia⟩ := z
            obtain ⟨rfl, rfl⟩ := yy
            refine ⟨rfl, .int n, rfl, n, rfl, by omega, by omega, fun D2 hD2 => ?_⟩
            have hget : (unitM n)[k]? = some (unitL k n) := by
              unfold unitM
              rw [List.getElem?_map, List.getElem?_range hk]; rfl
            refine lc_all (walk_range (lo := 0) (n := n)) (fun j H8 => Same H7 H8 ∧ ∃ acc2, H8 D2 = some (.lst acc2) ∧ ImAll K H8 acc2 (((unitL k n).take j).map rD)) ⟨same_new hD2, [], upd_same, .nil⟩ (fun _ _ _ _ => trivial) (fun j y2 H8 H9 hj z2 yy2 => ?_) (fun H8 z2 => ?_)
            · obtain ⟨sm2, acc2, eD2, ia2⟩ := z2
              obtain ⟨rfl, rfl⟩ := yy2
              refine ⟨rfl, .int (0 + (k : Int)), rfl, .int (0 + (j : Int)), rfl, rfl, .inr ⟨_, rfl, by show 2 ≤ sizeLine; decide, fun t ht => ?_⟩⟩
              have ev : (if decide (V.int (0 + (k : Int)) = V.int (0 + (j : Int))) = true then (1 : Int) else 0) = (if j = k then (1 : Rat) else 0).num := by
                by_cases h : j = k
                · rw [if_pos h, if_pos (by rw [h]; exact decide_eq_true rfl)]; rfl
                · rw [if_neg h, if_neg (by rw [decide_eq_false (fun z => h (by have := V.int.inj z; omega))]; decide)]; rfl
              have ed : (1 : Int) = ((if j = k then (1 : Rat) else 0).den : Int) := by
                by_cases h : j = k
                · rw [if_pos h]; rfl
                · rw [if_neg h]; rfl
              have st := same_new (o := .tup [V.int (if decide (V.int (0 + (k : Int)) = V.int (0 + (j : Int))) = true then 1 else 0), V.int 1]) ht
              have it : Im K (upd H9 t (.tup [V.int (if decide (V.int (0 + (k : Int)) = V.int (0 + (j : Int))) = true then 1 else 0), V.int 1])) (.ref t) (rD (if j = k then 1 else 0)) := rat_mk (.inl (by rw [upd_same, ← ev, ← ed]))
              have lacc2 : acc2.length = j := by rw [all_len ia2, List.length_take, unitL_length]; omega
              have eD3 := st _ _ eD2
              refine ⟨acc2, eD3, small1000 (by omega), fun b o e => ?_, acc2 ++ [.ref t], upd_same, ?_⟩
              · rw [upd_ne (ne_of_none e hD2)]
                exact st _ _ (sm2 _ _ e)
              · exact all_snoc (ImAll.mono ((tk_same st).trans (tk_lst eD3)) _ ia2) (unitL_get hj) (Im.mono (tk_lst eD3) _ it)
            · obtain ⟨sm2, acc2, eD2, ia2⟩ := z2
              rw [List.take_of_length_le (by rw [unitL_length]; exact Nat.le_refl _)] at ia2
              refine ⟨D2, acc2, rfl, .inl ⟨.of eD2, fun l hl => ?_⟩⟩
              have sl := same_new (o := .tup acc2) hl
              have il : Im K (upd H8 l (.tup acc2)) (.ref l) (vD (unitL k n)) := .tup (.inl upd_same) (ImAll.mono (tk_new hl) _ ia2)
              have lacc : acc.length = k := by rw [all_len ia, List.length_take, unitM_length]; omega
              have eD3 := sl _ _ (sm2 _ _ eD)
              refine ⟨acc, eD3, small1000 (by omega), fun b o e => ?_, acc ++ [.ref l], upd_same, ?_⟩
              · rw [upd_ne (ne_of_none e hD)]
                exact sl _ _ (sm2 _ _ (sm _ _ e))
              · exact all_snoc (ImAll.mono ((tk_same (sm2.trans sl)).trans (tk_lst eD3)) _ ia) hget (Im.mono (tk_lst eD3) _ il)
          · obtain ⟨sm, acc, eD, ia⟩ := z
            rw [List.take_of_length_le (by rw [unitM_length]; exact Nat.le_refl _)] at ia
            refine ⟨D, acc, rfl, .inl ⟨.of eD, fun l hl => ?_⟩⟩
            have sl := same_new (o := .tup acc) hl
            have il : Im K (upd H6 l (.tup acc)) (.ref l) (mD (unitM n)) := .tup (.inl upd_same) (ImAll.mono (tk_new hl) _ ia)
            generalize upd H6 l (.tup acc) = G6 at *
            have s5 := sm.trans sl
            have eU6 := s5 _ _ eU4
            refine ⟨lu, us, .ref l, rfl, rfl, eU6, small1000 (by omega), _, us ++ [.ref l], rfl, (bb.trans (bar_same' s5)).trans bar_upd, upd_same, by rw [List.length_append, lus]; rfl, fun j v hv => ?_⟩
            by_cases hj : j < us.length
            · rw [List.getElem?_append_left hj] at hv
              exact Im.mono ((tk_same s5).trans (tk_lst eU6)) _ (ims j v hv)
            · rw [List.getElem?_append_right (by omega)] at hv
              have hj0 : j = us.length := by
                have := (List.getElem?_eq_some_iff.mp hv).1
                simp at this
                omega
              subst hj0
              rw [Nat.sub_self] at hv
              obtain rfl := Option.some.inj hv
              rw [lus, hn]
              exact Im.mono (tk_lst eU6) _ il
        · rintro σ H4 ⟨y5', us, rfl, bb, eU4, lus, ims⟩
          replace pki := Im.mono (tkb bb) _ pki
          have lus2 : us.length = 2 := lus
          refine ⟨.ref lu, rfl, lu, rfl, ⟨us, .of eU4⟩, fun D hD => ?_⟩
          refine lc_all (walk_list (xs := us)) (fun k H6 => Same H4 H6 ∧ H6 D = some (.lst ([V.str "told", V.str "matrix"].take k))) ⟨same_new hD, upd_same⟩ (fun k H6 _ z => .of (z.1 _ _ eU4)) (fun k y H6 H7 hk z yy => ?_) (fun H6 z => ?_)
          · obtain ⟨sm, eD⟩ := z
            obtain ⟨rfl, hy⟩ := yy
            have iy := Im.mono (tk_same sm) _ (ims k y hy)
            refine ⟨rfl, y, rfl, by show 0 ≤ sizeLine; decide, fun t ht => ?_⟩
            have st := same_new (o := .tup []) ht
            have dt : Da K (NC c L) (upd H7 t (.tup [])) (.ref t) (.tuple []) := .tup (.inl upd_same) .nil
            generalize upd H7 t (.tup []) = G7 at *
            refine ⟨NC c L, 3, y, .ref t, mD (unitM (48 + k)), .tuple [], rfl, Im.da _ (Im.mono (tk_same st) _ iy), dt, by decide, ok3T un_tn, fun x H8 s8 wd => ?_⟩
            have eD8 := s8 _ _ (st _ _ eD)
            have hk2 : k = 0 ∨ k = 1 := by omega
            have ex : [V.str "told", V.str "matrix"].take k ++ [V.str x] = [V.str "told", V.str "matrix"].take (k + 1) := by
              rcases hk2 with rfl | rfl
              · rw [un48 wd]; rfl
              · rw [un49 wd]; rfl
            refine ⟨_, eD8, small1000 (by rw [List.length_take]; omega), fun b o e => ?_, ?_⟩
            · rw [upd_ne (ne_of_none e hD)]
              exact s8 _ _ (st _ _ (sm _ _ e))
            · rw [ex]; exact upd_same
          · obtain ⟨sm, eD⟩ := z
            rw [lus2] at eD
            replace eD : H6 D = some (.lst [V.str "told", V.str "matrix"]) := eD
            replace pki := Im.mono (tk_same sm) _ pki
            refine ⟨by show 2 ≤ sizeLine; decide, fun lw hlw => ?_⟩
            have sw := same_new (o := .lst [V.str "told", V.str "matrix"]) hlw
            have ew : (upd H6 lw (.lst [V.str "told", V.str "matrix"])) lw = some (.lst [V.str "told", V.str "matrix"]) := upd_same
            generalize upd H6 lw (.lst [V.str "told", V.str "matrix"]) = G8 at *
            replace eD := sw _ _ eD
            replace pki := Im.mono (tk_same sw) _ pki
            refine ⟨.list [.str "told", .str "matrix"], .list [.str "told", .str "matrix"], .lst (.of eD) (.cons (.str _) (.cons (.str _) .nil)), .lst (.of ew) (.cons (.str _) (.cons (.str _) .nil)), shaped_two, shaped_two, ?_⟩
            rw [eqv_two]
            refine ⟨false, rfl, iteF ?_⟩
            refine ⟨by show 2 ≤ sizeLine; decide, fun t84 ht84 => ?_⟩
            have s85 := same_new (o := .tup [V.int 1, V.int 1]) ht84
            have e85 : (upd G8 t84 (.tup [V.int 1, V.int 1])) t84 = some (.tup [V.int 1, V.int 1]) := upd_same
            generalize upd G8 t84 (.tup [V.int 1, V.int 1]) = X85 at *
            replace pki := Im.mono (tk_same s85) _ pki
            have i84 : Im K X85 (.ref t84) _ := .tup (.inl e85) (.cons (.int _) (.cons (.int _) (.nil)))
            refine ⟨by show 2 ≤ sizeLine; decide, fun t86 ht86 => ?_⟩
            have s87 := same_new (o := .tup [V.int 1, V.int 2]) ht86
            have e87 : (upd X85 t86 (.tup [V.int 1, V.int 2])) t86 = some (.tup [V.int 1, V.int 2]) := upd_same
            generalize upd X85 t86 (.tup [V.int 1, V.int 2]) = X87 at *
            replace pki := Im.mono (tk_same s87) _ pki
            replace i84 := Im.mono (tk_same s87) _ i84
            have i86 : Im K X87 (.ref t86) _ := .tup (.inl e87) (.cons (.int _) (.cons (.int _) (.nil)))
            refine ⟨by show 2 ≤ sizeLine; decide, fun t88 ht88 => ?_⟩
            have s89 := same_new (o := .tup [V.ref t84, V.ref t86]) ht88
            have e89 : (upd X87 t88 (.tup [V.ref t84, V.ref t86])) t88 = some (.tup [V.ref t84, V.ref t86]) := upd_same
            generalize upd X87 t88 (.tup [V.ref t84, V.ref t86]) = X89 at *
            replace pki := Im.mono (tk_same s89) _ pki
            replace i84 := Im.mono (tk_same s89) _ i84
            replace i86 := Im.mono (tk_same s89) _ i86
            have i88 : Im K X89 (.ref t88) _ := .tup (.inl e89) (.cons i84 (.cons i86 (.nil)))
            refine ⟨by show 2 ≤ sizeLine; decide, fun t90 ht90 => ?_⟩
            have s91 := same_new (o := .tup [V.int 0, V.int 1]) ht90
            have e91 : (upd X89 t90 (.tup [V.int 0, V.int 1])) t90 = some (.tup [V.int 0, V.int 1]) := upd_same
            generalize upd X89 t90 (.tup [V.int 0, V.int 1]) = X91 at *
            replace pki := Im.mono (tk_same s91) _ pki
            replace i88 := Im.mono (tk_same s91) _ i88
            have i90 : Im K X91 (.ref t90) _ := .tup (.inl e91) (.cons (.int _) (.cons (.int _) (.nil)))
            refine ⟨by show 2 ≤ sizeLine; decide, fun t92 ht92 => ?_⟩
            have s93 := same_new (o := .tup [V.int 1, V.int 1]) ht92
            have e93 : (upd X91 t92 (.tup [V.int 1, V.int 1])) t92 = some (.tup [V.int 1, V.int 1]) := upd_same
            generalize upd X91 t92 (.tup [V.int 1, V.int 1]) = X93 at *
            replace pki := Im.mono (tk_same s93) _ pki
            replace i88 := Im.mono (tk_same s93) _ i88
            replace i90 := Im.mono (tk_same s93) _ i90
            have i92 : Im K X93 (.ref t92) _ := .tup (.inl e93) (.cons (.int _) (.cons (.int _) (.nil)))
            refine ⟨by show 2 ≤ sizeLine; decide, fun t94 ht94 => ?_⟩
            have s95 := same_new (o := .tup [V.ref t90, V.ref t92]) ht94
            have e95 : (upd X93 t94 (.tup [V.ref t90, V.ref t92])) t94 = some (.tup [V.ref t90, V.ref t92]) := upd_same
            generalize upd X93 t94 (.tup [V.ref t90, V.ref t92]) = X95 at *
            replace pki := Im.mono (tk_same s95) _ pki
            replace i88 := Im.mono (tk_same s95) _ i88
            replace i90 := Im.mono (tk_same s95) _ i90
            replace i92 := Im.mono (tk_same s95) _ i92
            have i94 : Im K X95 (.ref t94) _ := .tup (.inl e95) (.cons i90 (.cons i92 (.nil)))
            refine ⟨by show 2 ≤ sizeLine; decide, fun t96 ht96 => ?_⟩
            have s97 := same_new (o := .tup [V.ref t88, V.ref t94]) ht96
            have e97 : (upd X95 t96 (.tup [V.ref t88, V.ref t94])) t96 = some (.tup [V.ref t88, V.ref t94]) := upd_same
            generalize upd X95 t96 (.tup [V.ref t88, V.ref t94]) = X97 at *
            replace pki := Im.mono (tk_same s97) _ pki
            replace i88 := Im.mono (tk_same s97) _ i88
            replace i94 := Im.mono (tk_same s97) _ i94
            have i96 : Im K X97 (.ref t96) _ := .tup (.inl e97) (.cons i88 (.cons i94 (.nil)))
            refine ⟨by show 2 ≤ sizeLine; decide, fun t98 ht98 => ?_⟩
            have s99 := same_new (o := .tup [V.int 1, V.int 1]) ht98
            have e99 : (upd X97 t98 (.tup [V.int 1, V.int 1])) t98 = some (.tup [V.int 1, V.int 1]) := upd_same
            generalize upd X97 t98 (.tup [V.int 1, V.int 1]) = X99 at *
            replace pki := Im.mono (tk_same s99) _ pki
            replace i96 := Im.mono (tk_same s99) _ i96
            have i98 : Im K X99 (.ref t98) _ := .tup (.inl e99) (.cons (.int _) (.cons (.int _) (.nil)))
            refine ⟨by show 2 ≤ sizeLine; decide, fun t100 ht100 => ?_⟩
            have s101 := same_new (o := .tup [V.int 3, V.int 2]) ht100
            have e101 : (upd X99 t100 (.tup [V.int 3, V.int 2])) t100 = some (.tup [V.int 3, V.int 2]) := upd_same
            generalize upd X99 t100 (.tup [V.int 3, V.int 2]) = X101 at *
            replace pki := Im.mono (tk_same s101) _ pki
            replace i96 := Im.mono (tk_same s101) _ i96
            replace i98 := Im.mono (tk_same s101) _ i98
            have i100 : Im K X101 (.ref t100) _ := .tup (.inl e101) (.cons (.int _) (.cons (.int _) (.nil)))
            refine ⟨by show 2 ≤ sizeLine; decide, fun t102 ht102 => ?_⟩
            have s103 := same_new (o := .tup [V.ref t98, V.ref t100]) ht102
            have e103 : (upd X101 t102 (.tup [V.ref t98, V.ref t100])) t102 = some (.tup [V.ref t98, V.ref t100]) := upd_same
            generalize upd X101 t102 (.tup [V.ref t98, V.ref t100]) = X103 at *
            replace pki := Im.mono (tk_same s103) _ pki
            replace i96 := Im.mono (tk_same s103) _ i96
            replace i98 := Im.mono (tk_same s103) _ i98
            replace i100 := Im.mono (tk_same s103) _ i100
            have i102 : Im K X103 (.ref t102) _ := .tup (.inl e103) (.cons i98 (.cons i100 (.nil)))
            have iA104 : Im K X103 (.ref t96) (mD A0) := i96
            have iB104 : Im K X103 (.ref t102) (vD t0) := i102
            refine ⟨fun _ => True, .ref t96, .ref t102, mD A0, vD t0, rfl, Im.da _ iA104, Im.da _ iB104, (fun _ _ _ => solv0), fun Y104 sy104 => ⟨fun j => absurd j (by rw [jm0]; decide), fun _ j => absurd j (by rw [jv0]; decide), fun _ _ j => absurd j (by rw [mf0]; decide), fun fk A' t' _ _ eA' et' _ ip104 => ?_⟩⟩
            have fki : Im K Y104 (.ref fk) (.tuple [.str "made", vD [1, 1]]) := by
              rw [← mD_inj eA', ← vD_inj et'] at ip104
              exact Eq.mp (congrArg (Im K Y104 (.ref fk)) told0) ip104
            replace pki := Im.mono (tk_same sy104) _ pki
            rw [hKD] at fki
            refine ⟨.ref pk, rfl, ?_⟩
            refine ⟨by show 2 ≤ sizeLine; decide, fun t105 ht105 => ?_⟩
            have s106 := same_new (o := .tup [V.int 1, V.int 1]) ht105
            have e106 : (upd Y104 t105 (.tup [V.int 1, V.int 1])) t105 = some (.tup [V.int 1, V.int 1]) := upd_same
            generalize upd Y104 t105 (.tup [V.int 1, V.int 1]) = X106 at *
            replace pki := Im.mono (tk_same s106) _ pki
            replace fki := Im.mono (tk_same s106) _ fki
            have i105 : Im K X106 (.ref t105) _ := .tup (.inl e106) (.cons (.int _) (.cons (.int _) (.nil)))
            refine ⟨by show 2 ≤ sizeLine; decide, fun t107 ht107 => ?_⟩
            have s108 := same_new (o := .tup [V.int 1, V.int 1]) ht107
            have e108 : (upd X106 t107 (.tup [V.int 1, V.int 1])) t107 = some (.tup [V.int 1, V.int 1]) := upd_same
            generalize upd X106 t107 (.tup [V.int 1, V.int 1]) = X108 at *
            replace pki := Im.mono (tk_same s108) _ pki
            replace fki := Im.mono (tk_same s108) _ fki
            replace i105 := Im.mono (tk_same s108) _ i105
            have i107 : Im K X108 (.ref t107) _ := .tup (.inl e108) (.cons (.int _) (.cons (.int _) (.nil)))
            refine ⟨by show 2 ≤ sizeLine; decide, fun t109 ht109 => ?_⟩
            have s110 := same_new (o := .tup [V.ref t105, V.ref t107]) ht109
            have e110 : (upd X108 t109 (.tup [V.ref t105, V.ref t107])) t109 = some (.tup [V.ref t105, V.ref t107]) := upd_same
            generalize upd X108 t109 (.tup [V.ref t105, V.ref t107]) = X110 at *
            replace pki := Im.mono (tk_same s110) _ pki
            replace fki := Im.mono (tk_same s110) _ fki
            replace i105 := Im.mono (tk_same s110) _ i105
            replace i107 := Im.mono (tk_same s110) _ i107
            have i109 : Im K X110 (.ref t109) _ := .tup (.inl e110) (.cons i105 (.cons i107 (.nil)))
            refine ⟨by show 2 ≤ sizeLine; decide, fun t111 ht111 => ?_⟩
            have s112 := same_new (o := .tup [V.str ("made" : Str), V.ref t109]) ht111
            have e112 : (upd X110 t111 (.tup [V.str ("made" : Str), V.ref t109])) t111 = some (.tup [V.str ("made" : Str), V.ref t109]) := upd_same
            generalize upd X110 t111 (.tup [V.str ("made" : Str), V.ref t109]) = X112 at *
            replace pki := Im.mono (tk_same s112) _ pki
            replace fki := Im.mono (tk_same s112) _ fki
            replace i109 := Im.mono (tk_same s112) _ i109
            have d111 : Im K X112 (.ref t111) KD := by
              rw [← hKD]; exact .tup (.inl e112) (.cons (.str _) (.cons i109 .nil))
            have flK : Fl 3 KD := by rw [← hKD]; exact fl_word (by decide)
            refine ⟨.ref pk, .ref t111, KD, rfl, pki, d111, flK, fun Z1 sz1 => ⟨true, rfl, iteT ⟨.ref fk, rfl, ?_⟩⟩⟩
            replace pki := Im.mono (tk_same sz1) _ pki
            replace fki := Im.mono (tk_same sz1) _ fki
            refine ⟨by show 2 ≤ sizeLine; decide, fun t113 ht113 => ?_⟩
            have s114 := same_new (o := .tup [V.int 1, V.int 1]) ht113
            have e114 : (upd Z1 t113 (.tup [V.int 1, V.int 1])) t113 = some (.tup [V.int 1, V.int 1]) := upd_same
            generalize upd Z1 t113 (.tup [V.int 1, V.int 1]) = X114 at *
            replace pki := Im.mono (tk_same s114) _ pki
            replace fki := Im.mono (tk_same s114) _ fki
            have i113 : Im K X114 (.ref t113) _ := .tup (.inl e114) (.cons (.int _) (.cons (.int _) (.nil)))
            refine ⟨by show 2 ≤ sizeLine; decide, fun t115 ht115 => ?_⟩
            have s116 := same_new (o := .tup [V.int 1, V.int 1]) ht115
            have e116 : (upd X114 t115 (.tup [V.int 1, V.int 1])) t115 = some (.tup [V.int 1, V.int 1]) := upd_same
            generalize upd X114 t115 (.tup [V.int 1, V.int 1]) = X116 at *
            replace pki := Im.mono (tk_same s116) _ pki
            replace fki := Im.mono (tk_same s116) _ fki
            replace i113 := Im.mono (tk_same s116) _ i113
            have i115 : Im K X116 (.ref t115) _ := .tup (.inl e116) (.cons (.int _) (.cons (.int _) (.nil)))
            refine ⟨by show 2 ≤ sizeLine; decide, fun t117 ht117 => ?_⟩
            have s118 := same_new (o := .tup [V.ref t113, V.ref t115]) ht117
            have e118 : (upd X116 t117 (.tup [V.ref t113, V.ref t115])) t117 = some (.tup [V.ref t113, V.ref t115]) := upd_same
            generalize upd X116 t117 (.tup [V.ref t113, V.ref t115]) = X118 at *
            replace pki := Im.mono (tk_same s118) _ pki
            replace fki := Im.mono (tk_same s118) _ fki
            replace i113 := Im.mono (tk_same s118) _ i113
            replace i115 := Im.mono (tk_same s118) _ i115
            have i117 : Im K X118 (.ref t117) _ := .tup (.inl e118) (.cons i113 (.cons i115 (.nil)))
            refine ⟨by show 2 ≤ sizeLine; decide, fun t119 ht119 => ?_⟩
            have s120 := same_new (o := .tup [V.str ("made" : Str), V.ref t117]) ht119
            have e120 : (upd X118 t119 (.tup [V.str ("made" : Str), V.ref t117])) t119 = some (.tup [V.str ("made" : Str), V.ref t117]) := upd_same
            generalize upd X118 t119 (.tup [V.str ("made" : Str), V.ref t117]) = X120 at *
            replace pki := Im.mono (tk_same s120) _ pki
            replace fki := Im.mono (tk_same s120) _ fki
            replace i117 := Im.mono (tk_same s120) _ i117
            have d119 : Im K X120 (.ref t119) KD := by
              rw [← hKD]; exact .tup (.inl e120) (.cons (.str _) (.cons i117 .nil))
            exact ⟨.ref fk, .ref t119, KD, rfl, fki, d119, flK, fun Z2 sz2 => q Z2⟩
end
end K42

set_option Elab.async false
set_option linter.all false
set_option maxRecDepth 100000
namespace K42
open PySem PySem.Spec PyProof.Rows L2 Ly Mt El
/-- the class C's def m -/
def HereM (K : PySem.W.Frag) (C : Addr) (m qual : Str) (st : Stmt) : Prop := ∃ f fd, Meth K C m f ∧ Fun K m qual st f fd
theorem hereM {K : PySem.W.Frag} {C f : Addr} {m qual : Str} {st : Stmt} {oc : Value} {od an : Option Addr} {osl : Array (Option Value)} {kV doc pm cdv ct : Value}
    (a : PySem.W.findIn K (.ref C) m = some (some (.ref f))) (i : PySem.W.isFn K (.ref f) = true)
    (l : K.lookup f = some ⟨oc, od, .func (PySem.W.fnOf m qual (defArgs st) (defBody st) (defScope st) .none kV doc pm an cdv ct), osl⟩)
    (c : PySem.W.codeIn K cdv qual = true) (k : PySem.W.keepIn K (.ref f) = true) : HereM K C m qual st := ⟨f, _, ⟨a, i, k⟩, fun_mk l c k⟩
theorem int_mk {K : PySem.W.Frag} {h : Heap} {mg : Str → Option Value} (X : K.In h) (G : h.Ns mainGlobals mg) {x : Str} {i : Int} {t : Tok} (a : PySem.W.nsIn K mainGlobals x = some (some (.int i t))) : ∃ u, mg x = some u ∧ L2.RelV (.int i) u := ⟨_, PySem.W.mg_of X G a, ⟨_, rfl⟩⟩
theorem noat {K : PySem.W.Frag} {C : Addr} {f : Str} (a : PySem.W.findIn K (.ref C) f = some none) : NoAttr K C f := a
theorem kit_own {K : PySem.W.Frag} {D C : Addr} (hdct : PySem.W.hasDictIn K C = true) (ht : PySem.W.typeIn K (.ref C) = some (.type "type")) (h4 : PySem.W.subIn K (.ref D) (.ref C) = some true) : PySem.W.kitOne K (.ref D) (.ref C) = some true := by
  unfold PySem.W.kitOne
  split
  · rfl
  · obtain ⟨cd, hc, _⟩ := PySem.W.any_some hdct
    show (if ((PySem.W.clsIn K C).isSome && PySem.W.typeIn K (.ref C) == some (.type "type")) = true then PySem.W.subIn K (.ref D) (.ref C) else none) = some true
    rw [if_pos (by rw [hc, ht] <;> rfl)]
    exact h4
theorem kit_blt {K : PySem.W.Frag} {D : Addr} {T : String} (hm : PySem.W.kitMeta T = true) (h4 : PySem.W.subIn K (.ref D) (.type T) = some true) : PySem.W.kitOne K (.ref D) (.type T) = some true := by
  unfold PySem.W.kitOne
  split
  · rfl
  · show (if PySem.W.kitMeta T = true then PySem.W.subIn K (.ref D) (.type T) else none) = some true
    rw [if_pos hm]
    exact h4
structure Te (K : PySem.W.Frag) (mg : Str → Option Value) (ev em eu es et : Addr) : Prop where
  g_BadVector : mg "BadVector" = some (.ref ev)
  x_BadVector : PySem.W.excIn K ev [.type "ValueError", .type "Exception", .type "BaseException", .type "object"] "ValueError.__new__" = true
  k_BadVector : PySem.W.keepIn K (.ref ev) = true
  b_BadVector : PySem.W.subIn K (.ref ev) (.type "BaseException") = some true
  t_BadVector : PySem.W.typeIn K (.ref ev) = some (.type "type")
  g_BadMatrix : mg "BadMatrix" = some (.ref em)
  x_BadMatrix : PySem.W.excIn K em [.type "ValueError", .type "Exception", .type "BaseException", .type "object"] "ValueError.__new__" = true
  k_BadMatrix : PySem.W.keepIn K (.ref em) = true
  b_BadMatrix : PySem.W.subIn K (.ref em) (.type "BaseException") = some true
  t_BadMatrix : PySem.W.typeIn K (.ref em) = some (.type "type")
  g_Unlike : mg "Unlike" = some (.ref eu)
  x_Unlike : PySem.W.excIn K eu [.type "ValueError", .type "Exception", .type "BaseException", .type "object"] "ValueError.__new__" = true
  k_Unlike : PySem.W.keepIn K (.ref eu) = true
  b_Unlike : PySem.W.subIn K (.ref eu) (.type "BaseException") = some true
  t_Unlike : PySem.W.typeIn K (.ref eu) = some (.type "type")
  g_Singular : mg "Singular" = some (.ref es)
  x_Singular : PySem.W.excIn K es [.type "ValueError", .type "Exception", .type "BaseException", .type "object"] "ValueError.__new__" = true
  k_Singular : PySem.W.keepIn K (.ref es) = true
  b_Singular : PySem.W.subIn K (.ref es) (.type "BaseException") = some true
  t_Singular : PySem.W.typeIn K (.ref es) = some (.type "type")
  g_TreeError : mg "TreeError" = some (.ref et)
  m_ValueError : mg "ValueError" = none
  e_vv : PySem.W.exmOne K (.ref ev) (.ref ev) = some true
  e_uv : PySem.W.exmOne K (.ref eu) (.ref ev) = some false
  e_uu : PySem.W.exmOne K (.ref eu) (.ref eu) = some true
  e_mv : PySem.W.exmOne K (.ref em) (.ref ev) = some false
  e_mu : PySem.W.exmOne K (.ref em) (.ref eu) = some false
  e_mm : PySem.W.exmOne K (.ref em) (.ref em) = some true
  e_sv : PySem.W.exmOne K (.ref es) (.ref ev) = some false
  e_su : PySem.W.exmOne K (.ref es) (.ref eu) = some false
  e_sm : PySem.W.exmOne K (.ref es) (.ref em) = some false
  e_ss : PySem.W.exmOne K (.ref es) (.ref es) = some true
  i_v : ExcC K ev
  i_u : ExcC K eu
  i_m : ExcC K em
  i_s : ExcC K es
  k_v : PySem.W.kitOne K (.ref ev) (.ref et) = some true
  k_u : PySem.W.kitOne K (.ref eu) (.ref et) = some true
  k_m : PySem.W.kitOne K (.ref em) (.ref et) = some true
  k_s : PySem.W.kitOne K (.ref es) (.type "ValueError") = some true
theorem Te.tr {K : PySem.W.Frag} {mg : Str → Option Value} {ev em eu es et : Addr} (h : Te K mg ev em eu es et) : Tr K mg ⟨ev, em, eu, es, et⟩ := ⟨h.g_BadVector, h.x_BadVector, h.k_BadVector, h.b_BadVector, h.t_BadVector, h.g_BadMatrix, h.x_BadMatrix, h.k_BadMatrix, h.b_BadMatrix, h.t_BadMatrix, h.g_Unlike, h.x_Unlike, h.k_Unlike, h.b_Unlike, h.t_Unlike, h.g_Singular, h.x_Singular, h.k_Singular, h.b_Singular, h.t_Singular, h.g_TreeError, h.m_ValueError, h.e_vv, h.e_uv, h.e_uu, h.e_mv, h.e_mu, h.e_mm, h.e_sv, h.e_su, h.e_sm, h.e_ss, h.i_v, h.i_u, h.i_m, h.i_s, h.k_v, h.k_u, h.k_m, h.k_s⟩
set_option maxHeartbeats 0 in
theorem all_mk {l : PySem.W.OpenLaw} {w : World} {K : PySem.W.Frag} {mg : Str → Option Value} {fa C C2 ev em eu es et : Addr} (hfa : mg "law" = some (.ref fa)) (T : Tx K mg C) (mk : PySem.W.makesIn K C = true) (kc : PySem.W.keepIn K (.ref C) = true)
    (TE0 : Te K mg ev em eu es et) (TS : Ts K mg C2) (mk2 : PySem.W.makesIn K C2 = true) (kc2 : PySem.W.keepIn K (.ref C2) = true)
    (h_is_int : Here K mg "is_int" s_is_int) (h_is_pair : Here K mg "is_pair" s_is_pair) (h_is_ratio : Here K mg "is_ratio" s_is_ratio) (h_made : Here K mg "made" s_made) (h_plus : Here K mg "plus" s_plus) (h_minus : Here K mg "minus" s_minus) (h_times : Here K mg "times" s_times) (h_over : Here K mg "over" s_over) (h_opposite : Here K mg "opposite" s_opposite) (h_is_vector : Here K mg "is_vector" s_is_vector) (h_is_matrix : Here K mg "is_matrix" s_is_matrix) (h_need_vector : Here K mg "need_vector" s_need_vector) (h_need_matrix : Here K mg "need_matrix" s_need_matrix) (h_unit : Here K mg "unit" s_unit) (h_first_place : Here K mg "first_place" s_first_place) (h_less_row : Here K mg "less_row" s_less_row) (h_cleared : Here K mg "cleared" s_cleared) (h_taken_in : Here K mg "taken_in" s_taken_in) (h_combined : Here K mg "combined" s_combined) (h_multiplied : Here K mg "multiplied" s_multiplied) (h_inverted : Here K mg "inverted" s_inverted) (h_made_of : Here K mg "made_of" s_made_of) (h_rank : Here K mg "rank" s_rank) (h_inverse : Here K mg "inverse" s_inverse) (h_times_matrix : Here K mg "times_matrix" s_times_matrix) (h__law_cup : Here K mg "_law_cup" s__law_cup) (h__law_sip : Here K mg "_law_sip" s__law_sip) (h__law_is_whole : Here K mg "_law_is_whole" s__law_is_whole) (h__law_ratio : Here K mg "_law_ratio" s__law_ratio) (h__law_is_ratio : Here K mg "_law_is_ratio" s__law_is_ratio) (h__law_entry : Here K mg "_law_entry" s__law_entry) (h__law_bent : Here K mg "_law_bent" s__law_bent) (h__law_same : Here K mg "_law_same" s__law_same) (h__law_vector_is : Here K mg "_law_vector_is" s__law_vector_is) (h__law_matrix_is : Here K mg "_law_matrix_is" s__law_matrix_is) (h__law_odd_ratio : Here K mg "_law_odd_ratio" s__law_odd_ratio) (h__law_drawn : Here K mg "_law_drawn" s__law_drawn) (h__law_long : Here K mg "_law_long" s__law_long) (h__law_word : Here K mg "_law_word" s__law_word) (h__law_due : Here K mg "_law_due" s__law_due) (h__law_right : Here K mg "_law_right" s__law_right) (h_law : Here K mg "law" s_law)
    (m_Solver_init : HereM K C "__init__" "Solver.__init__" s_Solver_init) (m_Solver_left_of : HereM K C "left_of" "Solver.left_of" s_Solver_left_of) (m_Solver_weights : HereM K C "weights" "Solver.weights" s_Solver_weights) (m_Solver_marks : HereM K C "marks" "Solver.marks" s_Solver_marks) (m_Span_init : HereM K C2 "__init__" "Span.__init__" s_Span_init) (m_Span_many : HereM K C2 "many" "Span.many" s_Span_many) (m_Span_take : HereM K C2 "take" "Span.take" s_Span_take) :
    ∃ fd : FuncData, (∀ (s : Shared) (v : Value), BindsTo s fd ⟨[v], []⟩ [("script", v)]) ∧ ∀ base : Heap, K.In base → base.Ns mainGlobals mg → FnOk l.prog w K mg base CX0 20 fa fd ["script"] (sp_law K) := by
  obtain ⟨f, fd, hm, F⟩ := h_law
  have e : f = fa := by
    have := hm.symm.trans hfa
    injection this with e1
    injection e1
  subst e
  have TE : Tr K mg ⟨ev, em, eu, es, et⟩ := TE0.tr
  refine ⟨fd, fun s v => ?_, fun base _ _ => ?_⟩
  · obtain ⟨oc, od, kV, doc, pm, an, cdv, ct, osl, rfl, lk, hcd⟩ := F.ex
    exact .of_eq rfl
  have D_is_int : Def l.prog w K mg base 1 "is_int" s_is_int ["thing"] (sp_is_int K) := h_is_int.toDef (fun F => ok_is_int F T) fun _ _ _ _ _ _ us hl => match us, hl with | [_], _ => rfl
  have D_is_pair : Def l.prog w K mg base 1 "is_pair" s_is_pair ["thing"] (sp_is_pair K) := h_is_pair.toDef (fun F => ok_is_pair F T) fun _ _ _ _ _ _ us hl => match us, hl with | [_], _ => rfl
  have D_is_ratio : Def l.prog w K mg base 2 "is_ratio" s_is_ratio ["thing"] (sp_is_ratio K) := h_is_ratio.toDef (fun F => ok_is_ratio F T D_is_pair D_is_int (by decide)) fun _ _ _ _ _ _ us hl => match us, hl with | [_], _ => rfl
  have D_made : Def l.prog w K mg base 1 "made" s_made ["top", "bottom"] sp_made := h_made.toDef (fun F => ok_made F T) fun _ _ _ _ _ _ us hl => match us, hl with | [_, _], _ => rfl
  have D_plus : Def l.prog w K mg base 2 "plus" s_plus ["one", "other"] (sp_plus K) := h_plus.toDef (fun F => ok_plus F T D_made (by decide)) fun _ _ _ _ _ _ us hl => match us, hl with | [_, _], _ => rfl
  have D_minus : Def l.prog w K mg base 2 "minus" s_minus ["one", "other"] (sp_minus K) := h_minus.toDef (fun F => ok_minus F T D_made (by decide)) fun _ _ _ _ _ _ us hl => match us, hl with | [_, _], _ => rfl
  have D_times : Def l.prog w K mg base 2 "times" s_times ["one", "other"] (sp_times K) := h_times.toDef (fun F => ok_times F T D_made (by decide)) fun _ _ _ _ _ _ us hl => match us, hl with | [_, _], _ => rfl
  have D_over : Def l.prog w K mg base 2 "over" s_over ["one", "other"] (sp_over K) := h_over.toDef (fun F => ok_over F T D_made (by decide)) fun _ _ _ _ _ _ us hl => match us, hl with | [_, _], _ => rfl
  have D_opposite : Def l.prog w K mg base 1 "opposite" s_opposite ["one"] (sp_opposite K) := h_opposite.toDef (fun F => ok_opposite F T) fun _ _ _ _ _ _ us hl => match us, hl with | [_], _ => rfl
  have D_is_vector : Def l.prog w K mg base 3 "is_vector" s_is_vector ["thing"] (sp_is_vector K) := h_is_vector.toDef (fun F => ok_is_vector F T D_is_ratio (by decide)) fun _ _ _ _ _ _ us hl => match us, hl with | [_], _ => rfl
  have D_is_matrix : Def l.prog w K mg base 4 "is_matrix" s_is_matrix ["thing"] (sp_is_matrix K) := h_is_matrix.toDef (fun F => ok_is_matrix F T D_is_vector (by decide)) fun _ _ _ _ _ _ us hl => match us, hl with | [_], _ => rfl
  have D_need_vector : DefX l.prog w K mg base 4 "need_vector" s_need_vector ["thing"] (sp_need_vector K ⟨ev, em, eu, es, et⟩) := h_need_vector.toDefX (fun F => ok_need_vector F T TE D_is_vector (by decide)) fun _ _ _ _ _ _ us hl => match us, hl with | [_], _ => rfl
  have D_need_matrix : DefX l.prog w K mg base 5 "need_matrix" s_need_matrix ["thing"] (sp_need_matrix K ⟨ev, em, eu, es, et⟩) := h_need_matrix.toDefX (fun F => ok_need_matrix F T TE D_is_matrix (by decide)) fun _ _ _ _ _ _ us hl => match us, hl with | [_], _ => rfl
  have D_unit : Def l.prog w K mg base 1 "unit" s_unit ["index", "size"] (sp_unit K) := h_unit.toDef (fun F => ok_unit F T) fun _ _ _ _ _ _ us hl => match us, hl with | [_, _], _ => rfl
  have D_first_place : Def l.prog w K mg base 1 "first_place" s_first_place ["entries", "size"] (sp_first_place K) := h_first_place.toDef (fun F => ok_first_place F T) fun _ _ _ _ _ _ us hl => match us, hl with | [_, _], _ => rfl
  have D_less_row : Def l.prog w K mg base 3 "less_row" s_less_row ["entries", "factor", "row"] (sp_less_row K) := h_less_row.toDef (fun F => ok_less_row F T D_minus D_times (by decide)) fun _ _ _ _ _ _ us hl => match us, hl with | [_, _, _], _ => rfl
  have D_cleared : Def l.prog w K mg base 4 "cleared" s_cleared ["entries", "held"] (sp_cleared K) := h_cleared.toDef (fun F => ok_cleared F T D_less_row (by decide)) fun _ _ _ _ _ _ us hl => match us, hl with | [_, _], _ => rfl
  have D_taken_in : Def l.prog w K mg base 5 "taken_in" s_taken_in ["held", "entries", "size"] (sp_taken_in K) := h_taken_in.toDef (fun F => ok_taken_in F T D_cleared D_first_place D_over D_less_row (by decide) (by decide) (by decide) (by decide)) fun _ _ _ _ _ _ us hl => match us, hl with | [_, _, _], _ => rfl
  have I_Solver : Ini l.prog w K mg base 6 C ["self", "rows", "size"] (sp_init K C) := by
    obtain ⟨f, fd, M, F⟩ := m_Solver_init
    exact ⟨⟨f, fd, ok_Solver_init F T D_taken_in D_unit (by decide) (by decide), ⟨mk, M.at_, M.fn, kc⟩, F.binds (ps := ["self", "rows", "size"]) fun _ _ _ _ _ _ us hl => match us, hl with | [_, _, _], _ => rfl⟩⟩
  have M_left_of : Met l.prog w K mg base 5 C "left_of" ["self", "target"] (sp_left_of K C) := by
    obtain ⟨f, fd, M, F⟩ := m_Solver_left_of
    exact ⟨⟨f, fd, ok_Solver_left_of F T D_cleared (by decide), M, F.binds (ps := ["self", "target"]) fun _ _ _ _ _ _ us hl => match us, hl with | [_, _], _ => rfl⟩⟩
  have M_weights : Met l.prog w K mg base 6 C "weights" ["self", "target"] (sp_weights K C) := by
    obtain ⟨f, fd, M, F⟩ := m_Solver_weights
    exact ⟨⟨f, fd, ok_Solver_weights F T M_left_of D_first_place D_opposite (by decide) (by decide) (by decide), M, F.binds (ps := ["self", "target"]) fun _ _ _ _ _ _ us hl => match us, hl with | [_, _], _ => rfl⟩⟩
  have M_marks : Met l.prog w K mg base 6 C "marks" ["self", "target"] (sp_marks K C) := by
    obtain ⟨f, fd, M, F⟩ := m_Solver_marks
    exact ⟨⟨f, fd, ok_Solver_marks F T M_left_of D_first_place D_over D_opposite (by decide) (by decide) (by decide) (by decide), M, F.binds (ps := ["self", "target"]) fun _ _ _ _ _ _ us hl => match us, hl with | [_, _], _ => rfl⟩⟩
  have I_Span : Ini l.prog w K mg base 1 C2 ["self", "size"] (sp_span_init K C2) := by
    obtain ⟨f, fd, M, F⟩ := m_Span_init
    exact ⟨⟨f, fd, ok_Span_init F T TS, ⟨mk2, M.at_, M.fn, kc2⟩, F.binds (ps := ["self", "size"]) fun _ _ _ _ _ _ us hl => match us, hl with | [_, _], _ => rfl⟩⟩
  have M_many : Met l.prog w K mg base 1 C2 "many" ["self"] (sp_many K C2) := by
    obtain ⟨f, fd, M, F⟩ := m_Span_many
    exact ⟨⟨f, fd, ok_Span_many F T TS, M, F.binds (ps := ["self"]) fun _ _ _ _ _ _ us hl => match us, hl with | [_], _ => rfl⟩⟩
  have M_take : Met l.prog w K mg base 6 C2 "take" ["self", "vector"] (sp_take K C2) := by
    obtain ⟨f, fd, M, F⟩ := m_Span_take
    exact ⟨⟨f, fd, ok_Span_take F T TS D_taken_in (by decide), M, F.binds (ps := ["self", "vector"]) fun _ _ _ _ _ _ us hl => match us, hl with | [_, _], _ => rfl⟩⟩
  have D_combined : Def l.prog w K mg base 3 "combined" s_combined ["weights", "rows", "size"] (sp_combined K) := h_combined.toDef (fun F => ok_combined F T D_plus D_times (by decide)) fun _ _ _ _ _ _ us hl => match us, hl with | [_, _, _], _ => rfl
  have D_multiplied : Def l.prog w K mg base 4 "multiplied" s_multiplied ["one", "other", "size"] (sp_multiplied K) := h_multiplied.toDef (fun F => ok_multiplied F T D_combined (by decide)) fun _ _ _ _ _ _ us hl => match us, hl with | [_, _, _], _ => rfl
  have D_inverted : Def l.prog w K mg base 8 "inverted" s_inverted ["rows"] (sp_inverted K) := h_inverted.toDef (fun F => ok_inverted F T TS I_Solver (by decide)) fun _ _ _ _ _ _ us hl => match us, hl with | [_], _ => rfl
  have D_made_of : DefX l.prog w K mg base 8 "made_of" s_made_of ["rows", "target"] (sp_made_of K ⟨ev, em, eu, es, et⟩) := h_made_of.toDefX (fun F => ok_made_of F T TE D_need_matrix D_need_vector I_Solver M_weights M_marks (by decide) (by decide) (by decide) (by decide) (by decide)) fun _ _ _ _ _ _ us hl => match us, hl with | [_, _], _ => rfl
  have D_rank : DefX l.prog w K mg base 7 "rank" s_rank ["rows"] (sp_rank K ⟨ev, em, eu, es, et⟩) := h_rank.toDefX (fun F => ok_rank F T TE TS D_need_matrix I_Span M_take M_many (by decide) (by decide) (by decide) (by decide)) fun _ _ _ _ _ _ us hl => match us, hl with | [_], _ => rfl
  have D_inverse : DefX l.prog w K mg base 9 "inverse" s_inverse ["rows"] (sp_inverse K ⟨ev, em, eu, es, et⟩) := h_inverse.toDefX (fun F => ok_inverse F T TE D_need_matrix D_inverted (by decide) (by decide)) fun _ _ _ _ _ _ us hl => match us, hl with | [_], _ => rfl
  have D_times_matrix : DefX l.prog w K mg base 6 "times_matrix" s_times_matrix ["one", "other"] (sp_times_matrix K ⟨ev, em, eu, es, et⟩) := h_times_matrix.toDefX (fun F => ok_times_matrix F T TE D_need_matrix D_multiplied (by decide) (by decide)) fun _ _ _ _ _ _ us hl => match us, hl with | [_, _], _ => rfl
  have D__law_cup : Def l.prog w K mg base 1 "_law_cup" s__law_cup ["script"] (sp_cup K) := h__law_cup.toDef (fun F => ok__law_cup F T) fun _ _ _ _ _ _ us hl => match us, hl with | [_], _ => rfl
  have D__law_sip : Def l.prog w K mg base 1 "_law_sip" s__law_sip ["cup", "many"] sp_sip := h__law_sip.toDef (fun F => ok__law_sip F T) fun _ _ _ _ _ _ us hl => match us, hl with | [_, _], _ => rfl
  have D__law_is_whole : Def l.prog w K mg base 1 "_law_is_whole" s__law_is_whole ["found"] (sp_is_whole K) := h__law_is_whole.toDef (fun F => ok__law_is_whole F T) fun _ _ _ _ _ _ us hl => match us, hl with | [_], _ => rfl
  have D__law_ratio : Def l.prog w K mg base 1 "_law_ratio" s__law_ratio ["top", "bottom"] (sp_ratio K) := h__law_ratio.toDef (fun F => ok__law_ratio F T) fun _ _ _ _ _ _ us hl => match us, hl with | [_, _], _ => rfl
  have D__law_is_ratio : Def l.prog w K mg base 2 "_law_is_ratio" s__law_is_ratio ["found"] (sp_lis_ratio K) := h__law_is_ratio.toDef (fun F => ok__law_is_ratio F T D__law_is_whole D__law_ratio (by decide) (by decide)) fun _ _ _ _ _ _ us hl => match us, hl with | [_], _ => rfl
  have D__law_entry : Def l.prog w K mg base 2 "_law_entry" s__law_entry ["cup", "great"] (sp_entry K) := h__law_entry.toDef (fun F => ok__law_entry F T D__law_sip D__law_ratio (by decide)) fun _ _ _ _ _ _ us hl => match us, hl with | [_, _], _ => rfl
  have b__law_bent : ∀ (kV doc pm : Value) (an : Option Addr) (cdv ct : Value) (us : List Value), us.length = (["cup", "thing"] : List Str).length → bindArgs (PySem.W.fnOf "_law_bent" "_law_bent" (defArgs s__law_bent) (defBody s__law_bent) (defScope s__law_bent) .none kV doc pm an cdv ct) ⟨us, []⟩ = pure ((["cup", "thing"] : List Str).zip us) := fun _ _ _ _ _ _ us hl => match us, hl with | [_, _], _ => rfl
  have law_bent_0 : Def l.prog w K mg base 1 "_law_bent" s__law_bent ["cup", "thing"] (sp_bent K 0) := h__law_bent.toDef (fun F => ok_bent0 F) b__law_bent
  have law_bent_1 : Def l.prog w K mg base 2 "_law_bent" s__law_bent ["cup", "thing"] (sp_bent K 1) := h__law_bent.toDef (fun F => ok__law_bent F T D__law_sip law_bent_0 (by decide) (by decide)) b__law_bent
  have law_bent_2 : Def l.prog w K mg base 3 "_law_bent" s__law_bent ["cup", "thing"] (sp_bent K 2) := h__law_bent.toDef (fun F => ok__law_bent F T D__law_sip law_bent_1 (by decide) (by decide)) b__law_bent
  have law_bent_3 : Def l.prog w K mg base 4 "_law_bent" s__law_bent ["cup", "thing"] (sp_bent K 3) := h__law_bent.toDef (fun F => ok__law_bent F T D__law_sip law_bent_2 (by decide) (by decide)) b__law_bent
  have D__law_bent : Def l.prog w K mg base 5 "_law_bent" s__law_bent ["cup", "thing"] (sp_bent K 4) := h__law_bent.toDef (fun F => ok__law_bent F T D__law_sip law_bent_3 (by decide) (by decide)) b__law_bent
  have b__law_same : ∀ (kV doc pm : Value) (an : Option Addr) (cdv ct : Value) (us : List Value), us.length = (["found", "due"] : List Str).length → bindArgs (PySem.W.fnOf "_law_same" "_law_same" (defArgs s__law_same) (defBody s__law_same) (defScope s__law_same) .none kV doc pm an cdv ct) ⟨us, []⟩ = pure ((["found", "due"] : List Str).zip us) := fun _ _ _ _ _ _ us hl => match us, hl with | [_, _], _ => rfl
  have law_same_0 : Def l.prog w K mg base 1 "_law_same" s__law_same ["found", "due"] (sp_same K 0) := h__law_same.toDef (fun F => ok_same0 F) b__law_same
  have law_same_1 : Def l.prog w K mg base 2 "_law_same" s__law_same ["found", "due"] (sp_same K 1) := h__law_same.toDef (fun F => ok__law_same F T  law_same_0 (by decide)) b__law_same
  have law_same_2 : Def l.prog w K mg base 3 "_law_same" s__law_same ["found", "due"] (sp_same K 2) := h__law_same.toDef (fun F => ok__law_same F T  law_same_1 (by decide)) b__law_same
  have law_same_3 : Def l.prog w K mg base 4 "_law_same" s__law_same ["found", "due"] (sp_same K 3) := h__law_same.toDef (fun F => ok__law_same F T  law_same_2 (by decide)) b__law_same
  have D__law_same : Def l.prog w K mg base 5 "_law_same" s__law_same ["found", "due"] (sp_same K 4) := h__law_same.toDef (fun F => ok__law_same F T  law_same_3 (by decide)) b__law_same
  have D__law_vector_is : Def l.prog w K mg base 3 "_law_vector_is" s__law_vector_is ["found"] (sp_lvec K) := h__law_vector_is.toDef (fun F => ok__law_vector_is F T D__law_is_ratio (by decide)) fun _ _ _ _ _ _ us hl => match us, hl with | [_], _ => rfl
  have D__law_matrix_is : Def l.prog w K mg base 4 "_law_matrix_is" s__law_matrix_is ["found"] (sp_lmat K) := h__law_matrix_is.toDef (fun F => ok__law_matrix_is F T D__law_vector_is (by decide)) fun _ _ _ _ _ _ us hl => match us, hl with | [_], _ => rfl
  have D__law_odd_ratio : Def l.prog w K mg base 2 "_law_odd_ratio" s__law_odd_ratio ["cup"] (sp_odd K) := h__law_odd_ratio.toDef (fun F => ok__law_odd_ratio F T D__law_sip (by decide)) fun _ _ _ _ _ _ us hl => match us, hl with | [_], _ => rfl
  have D__law_drawn : Def l.prog w K mg base 6 "_law_drawn" s__law_drawn ["cup", "many", "size"] (sp_drawn K) := h__law_drawn.toDef (fun F => ok__law_drawn F T D__law_sip D__law_entry D__law_odd_ratio D__law_bent (by decide) (by decide) (by decide) (by decide)) fun _ _ _ _ _ _ us hl => match us, hl with | [_, _, _], _ => rfl
  have D__law_long : Def l.prog w K mg base 2 "_law_long" s__law_long ["cup"] (sp_long K) := h__law_long.toDef (fun F => ok__law_long F T D__law_sip (by decide)) fun _ _ _ _ _ _ us hl => match us, hl with | [_], _ => rfl
  have D__law_word : Def l.prog w K mg base 10 "_law_word" s__law_word ["way", "one", "other"] (sp_word K) := h__law_word.toDef (fun F => ok__law_word F T TE D_made_of D_times_matrix D_rank D_inverse (by decide) (by decide) (by decide) (by decide)) fun _ _ _ _ _ _ us hl => match us, hl with | [_, _, _], _ => rfl
  have D__law_due : Def l.prog w K mg base 5 "_law_due" s__law_due ["way", "one", "other"] (sp_due K) := h__law_due.toDef (fun F => ok__law_due F T D__law_matrix_is D__law_vector_is (by decide) (by decide)) fun _ _ _ _ _ _ us hl => match us, hl with | [_, _, _], _ => rfl
  have D__law_right : Def l.prog w K mg base 11 "_law_right" s__law_right ["way", "one", "other"] (sp_right K) := h__law_right.toDef (fun F => ok__law_right F T D__law_due D__law_word (by decide) (by decide)) fun _ _ _ _ _ _ us hl => match us, hl with | [_, _, _], _ => rfl
  exact ok_law F T TE D__law_cup D__law_sip D__law_drawn D__law_long D__law_right D__law_word D_made_of D__law_same (by decide) (by decide) (by decide) (by decide) (by decide) (by decide) (by decide) (by decide)
end K42

set_option Elab.async false
set_option linter.all false
set_option maxRecDepth 100000
open PySem PySem.W PyProof.Rows
set_option maxHeartbeats 0 in
theorem PySem.Challenge.cw_sameontrees_k42_refusals_of_matrices_holds : PySem.Challenge.rw_sameontrees_k42_refusals_of_matrices.Holds := by
  w_on; o_law; k_head; (case hw => w_witness2)
  k_fill
  refine L2.walk_of (l := PySem.Challenge.rw_sameontrees_k42_refusals_of_matrices) (n := 63) (k := 20) (x := "script") (CX := fun _ => L2.CX0) (sp := fun w => K42.sp_law _) rfl (by decide) rfl ⟨rfl, by decide, by decide⟩ (fun w h Y => PySem.W.kIn_of Y) ?F (fun _ _ a ns hl _ hS => ⟨a, ns, rfl, hS, hl, fun _ => rfl⟩) (fun _ _ _ _ _ h => h)
  case F =>
    intro w mg fa h KX G hmg
    refine' K42.all_mk hmg ⟨PySem.W.mg_none_of KX G ?z0, PySem.W.mg_none_of KX G ?z1, PySem.W.mg_none_of KX G ?z2, PySem.W.mg_none_of KX G ?z3, PySem.W.mg_none_of KX G ?z4, PySem.W.mg_none_of KX G ?z5, PySem.W.mg_none_of KX G ?z6, PySem.W.mg_none_of KX G ?z7, PySem.W.mg_none_of KX G ?z8, PySem.W.mg_none_of KX G ?z9, PySem.W.mg_none_of KX G ?z10, PySem.W.mg_none_of KX G ?z11, PySem.W.mg_of KX G ?g1, K42.int_mk KX G ?g2, Ly.pair_mk KX G ?g3 ?g4, Ly.pair_mk KX G ?g5 ?g6, PySem.W.mg_of KX G ?aC, ⟨?pg, ?hd, ?po, ?sa⟩, K42.noat ?n1, K42.noat ?n2, K42.noat ?n3⟩ ?mk ?kc ⟨PySem.W.mg_of KX G ?ge_v, ?x_v, ?k_v, ?b_v, ?t_v, PySem.W.mg_of KX G ?ge_m, ?x_m, ?k_m, ?b_m, ?t_m, PySem.W.mg_of KX G ?ge_u, ?x_u, ?k_u, ?b_u, ?t_u, PySem.W.mg_of KX G ?ge_s, ?x_s, ?k_s, ?b_s, ?t_s, PySem.W.mg_of KX G ?ge_t, PySem.W.mg_none_of KX G ?zv, PySem.W.exm_ref ?eb_vv ?eh_vv ?et_vv ?es_vv, PySem.W.exm_ref ?eb_uv ?eh_uv ?et_uv ?es_uv, PySem.W.exm_ref ?eb_uu ?eh_uu ?et_uu ?es_uu, PySem.W.exm_ref ?eb_mv ?eh_mv ?et_mv ?es_mv, PySem.W.exm_ref ?eb_mu ?eh_mu ?et_mu ?es_mu, PySem.W.exm_ref ?eb_mm ?eh_mm ?et_mm ?es_mm, PySem.W.exm_ref ?eb_sv ?eh_sv ?et_sv ?es_sv, PySem.W.exm_ref ?eb_su ?eh_su ?et_su ?es_su, PySem.W.exm_ref ?eb_sm ?eh_sm ?et_sm ?es_sm, PySem.W.exm_ref ?eb_ss ?eh_ss ?et_ss ?es_ss, ⟨?i0_v, ?i1_v, ?i2_v, ?i3_v, ?i4_v, ?i5_v, ?i6_v, ?i7_v⟩, ⟨?i0_u, ?i1_u, ?i2_u, ?i3_u, ?i4_u, ?i5_u, ?i6_u, ?i7_u⟩, ⟨?i0_m, ?i1_m, ?i2_m, ?i3_m, ?i4_m, ?i5_m, ?i6_m, ?i7_m⟩, ⟨?i0_s, ?i1_s, ?i2_s, ?i3_s, ?i4_s, ?i5_s, ?i6_s, ?i7_s⟩, K42.kit_own ?kd_v ?kt_v ?ks_v, K42.kit_own ?kd_u ?kt_u ?ks_u, K42.kit_own ?kd_m ?kt_m ?ks_m, K42.kit_blt (by decide +kernel) ?ks_s⟩ ⟨PySem.W.mg_of KX G ?aC2, ⟨?pg2, ?hd2, ?po2, ?sa2⟩, K42.noat ?nn1, K42.noat ?nn2, PySem.W.mg_none_of KX G ?zs⟩ ?mk2 ?kc2 (Ly.here KX G ?a0 ?l0 ?c0 ?k0) (Ly.here KX G ?a1 ?l1 ?c1 ?k1) (Ly.here KX G ?a2 ?l2 ?c2 ?k2) (Ly.here KX G ?a3 ?l3 ?c3 ?k3) (Ly.here KX G ?a4 ?l4 ?c4 ?k4) (Ly.here KX G ?a5 ?l5 ?c5 ?k5) (Ly.here KX G ?a6 ?l6 ?c6 ?k6) (Ly.here KX G ?a7 ?l7 ?c7 ?k7) (Ly.here KX G ?a8 ?l8 ?c8 ?k8) (Ly.here KX G ?a9 ?l9 ?c9 ?k9) (Ly.here KX G ?a10 ?l10 ?c10 ?k10) (Ly.here KX G ?a11 ?l11 ?c11 ?k11) (Ly.here KX G ?a12 ?l12 ?c12 ?k12) (Ly.here KX G ?a13 ?l13 ?c13 ?k13) (Ly.here KX G ?a14 ?l14 ?c14 ?k14) (Ly.here KX G ?a15 ?l15 ?c15 ?k15) (Ly.here KX G ?a16 ?l16 ?c16 ?k16) (Ly.here KX G ?a17 ?l17 ?c17 ?k17) (Ly.here KX G ?a18 ?l18 ?c18 ?k18) (Ly.here KX G ?a19 ?l19 ?c19 ?k19) (Ly.here KX G ?a20 ?l20 ?c20 ?k20) (Ly.here KX G ?a21 ?l21 ?c21 ?k21) (Ly.here KX G ?a22 ?l22 ?c22 ?k22) (Ly.here KX G ?a23 ?l23 ?c23 ?k23) (Ly.here KX G ?a24 ?l24 ?c24 ?k24) (Ly.here KX G ?a25 ?l25 ?c25 ?k25) (Ly.here KX G ?a26 ?l26 ?c26 ?k26) (Ly.here KX G ?a27 ?l27 ?c27 ?k27) (Ly.here KX G ?a28 ?l28 ?c28 ?k28) (Ly.here KX G ?a29 ?l29 ?c29 ?k29) (Ly.here KX G ?a30 ?l30 ?c30 ?k30) (Ly.here KX G ?a31 ?l31 ?c31 ?k31) (Ly.here KX G ?a32 ?l32 ?c32 ?k32) (Ly.here KX G ?a33 ?l33 ?c33 ?k33) (Ly.here KX G ?a34 ?l34 ?c34 ?k34) (Ly.here KX G ?a35 ?l35 ?c35 ?k35) (Ly.here KX G ?a36 ?l36 ?c36 ?k36) (Ly.here KX G ?a37 ?l37 ?c37 ?k37) (Ly.here KX G ?a38 ?l38 ?c38 ?k38) (Ly.here KX G ?a39 ?l39 ?c39 ?k39) (Ly.here KX G ?a40 ?l40 ?c40 ?k40) (Ly.here KX G ?a41 ?l41 ?c41 ?k41) (K42.hereM ?ma0 ?mi0 ?ml0 ?mc0 ?mkk0) (K42.hereM ?ma1 ?mi1 ?ml1 ?mc1 ?mkk1) (K42.hereM ?ma2 ?mi2 ?ml2 ?mc2 ?mkk2) (K42.hereM ?ma3 ?mi3 ?ml3 ?mc3 ?mkk3) (K42.hereM ?ma4 ?mi4 ?ml4 ?mc4 ?mkk4) (K42.hereM ?ma5 ?mi5 ?ml5 ?mc5 ?mkk5) (K42.hereM ?ma6 ?mi6 ?ml6 ?mc6 ?mkk6)
    (case aC => k_is)
    (case aC2 => k_is)
    (case ge_v => k_is)
    (case ge_m => k_is)
    (case ge_u => k_is)
    (case ge_s => k_is)
    (case ge_t => k_is)
    (case a0 => k_is)
    (case l0 => k_is)
    (case c0 => k_is)
    (case k0 => k_is)
    (case a1 => k_is)
    (case l1 => k_is)
    (case c1 => k_is)
    (case k1 => k_is)
    (case a2 => k_is)
    (case l2 => k_is)
    (case c2 => k_is)
    (case k2 => k_is)
    (case a3 => k_is)
    (case l3 => k_is)
    (case c3 => k_is)
    (case k3 => k_is)
    (case a4 => k_is)
    (case l4 => k_is)
    (case c4 => k_is)
    (case k4 => k_is)
    (case a5 => k_is)
    (case l5 => k_is)
    (case c5 => k_is)
    (case k5 => k_is)
    (case a6 => k_is)
    (case l6 => k_is)
    (case c6 => k_is)
    (case k6 => k_is)
    (case a7 => k_is)
    (case l7 => k_is)
    (case c7 => k_is)
    (case k7 => k_is)
    (case a8 => k_is)
    (case l8 => k_is)
    (case c8 => k_is)
    (case k8 => k_is)
    (case a9 => k_is)
    (case l9 => k_is)
    (case c9 => k_is)
    (case k9 => k_is)
    (case a10 => k_is)
    (case l10 => k_is)
    (case c10 => k_is)
    (case k10 => k_is)
    (case a11 => k_is)
    (case l11 => k_is)
    (case c11 => k_is)
    (case k11 => k_is)
    (case a12 => k_is)
    (case l12 => k_is)
    (case c12 => k_is)
    (case k12 => k_is)
    (case a13 => k_is)
    (case l13 => k_is)
    (case c13 => k_is)
    (case k13 => k_is)
    (case a14 => k_is)
    (case l14 => k_is)
    (case c14 => k_is)
    (case k14 => k_is)
    (case a15 => k_is)
    (case l15 => k_is)
    (case c15 => k_is)
    (case k15 => k_is)
    (case a16 => k_is)
    (case l16 => k_is)
    (case c16 => k_is)
    (case k16 => k_is)
    (case a17 => k_is)
    (case l17 => k_is)
    (case c17 => k_is)
    (case k17 => k_is)
    (case a18 => k_is)
    (case l18 => k_is)
    (case c18 => k_is)
    (case k18 => k_is)
    (case a19 => k_is)
    (case l19 => k_is)
    (case c19 => k_is)
    (case k19 => k_is)
    (case a20 => k_is)
    (case l20 => k_is)
    (case c20 => k_is)
    (case k20 => k_is)
    (case a21 => k_is)
    (case l21 => k_is)
    (case c21 => k_is)
    (case k21 => k_is)
    (case a22 => k_is)
    (case l22 => k_is)
    (case c22 => k_is)
    (case k22 => k_is)
    (case a23 => k_is)
    (case l23 => k_is)
    (case c23 => k_is)
    (case k23 => k_is)
    (case a24 => k_is)
    (case l24 => k_is)
    (case c24 => k_is)
    (case k24 => k_is)
    (case a25 => k_is)
    (case l25 => k_is)
    (case c25 => k_is)
    (case k25 => k_is)
    (case a26 => k_is)
    (case l26 => k_is)
    (case c26 => k_is)
    (case k26 => k_is)
    (case a27 => k_is)
    (case l27 => k_is)
    (case c27 => k_is)
    (case k27 => k_is)
    (case a28 => k_is)
    (case l28 => k_is)
    (case c28 => k_is)
    (case k28 => k_is)
    (case a29 => k_is)
    (case l29 => k_is)
    (case c29 => k_is)
    (case k29 => k_is)
    (case a30 => k_is)
    (case l30 => k_is)
    (case c30 => k_is)
    (case k30 => k_is)
    (case a31 => k_is)
    (case l31 => k_is)
    (case c31 => k_is)
    (case k31 => k_is)
    (case a32 => k_is)
    (case l32 => k_is)
    (case c32 => k_is)
    (case k32 => k_is)
    (case a33 => k_is)
    (case l33 => k_is)
    (case c33 => k_is)
    (case k33 => k_is)
    (case a34 => k_is)
    (case l34 => k_is)
    (case c34 => k_is)
    (case k34 => k_is)
    (case a35 => k_is)
    (case l35 => k_is)
    (case c35 => k_is)
    (case k35 => k_is)
    (case a36 => k_is)
    (case l36 => k_is)
    (case c36 => k_is)
    (case k36 => k_is)
    (case a37 => k_is)
    (case l37 => k_is)
    (case c37 => k_is)
    (case k37 => k_is)
    (case a38 => k_is)
    (case l38 => k_is)
    (case c38 => k_is)
    (case k38 => k_is)
    (case a39 => k_is)
    (case l39 => k_is)
    (case c39 => k_is)
    (case k39 => k_is)
    (case a40 => k_is)
    (case l40 => k_is)
    (case c40 => k_is)
    (case k40 => k_is)
    (case a41 => k_is)
    (case l41 => k_is)
    (case c41 => k_is)
    (case k41 => k_is)
    (case ma0 => k_is)
    (case mi0 => k_is)
    (case ml0 => k_is)
    (case mc0 => k_is)
    (case mkk0 => k_is)
    (case ma1 => k_is)
    (case mi1 => k_is)
    (case ml1 => k_is)
    (case mc1 => k_is)
    (case mkk1 => k_is)
    (case ma2 => k_is)
    (case mi2 => k_is)
    (case ml2 => k_is)
    (case mc2 => k_is)
    (case mkk2 => k_is)
    (case ma3 => k_is)
    (case mi3 => k_is)
    (case ml3 => k_is)
    (case mc3 => k_is)
    (case mkk3 => k_is)
    (case ma4 => k_is)
    (case mi4 => k_is)
    (case ml4 => k_is)
    (case mc4 => k_is)
    (case mkk4 => k_is)
    (case ma5 => k_is)
    (case mi5 => k_is)
    (case ml5 => k_is)
    (case mc5 => k_is)
    (case mkk5 => k_is)
    (case ma6 => k_is)
    (case mi6 => k_is)
    (case ml6 => k_is)
    (case mc6 => k_is)
    (case mkk6 => k_is)
    (case z0 => k_is)
    (case z1 => k_is)
    (case z2 => k_is)
    (case z3 => k_is)
    (case z4 => k_is)
    (case z5 => k_is)
    (case z6 => k_is)
    (case z7 => k_is)
    (case z8 => k_is)
    (case z9 => k_is)
    (case z10 => k_is)
    (case z11 => k_is)
    (case g1 => k_is)
    (case g2 => k_is)
    (case g3 => k_is)
    (case g4 => k_is)
    (case g5 => k_is)
    (case g6 => k_is)
    (case pg => k_is)
    (case hd => k_is)
    (case po => k_is)
    (case sa => k_is)
    (case n1 => k_is)
    (case n2 => k_is)
    (case n3 => k_is)
    (case mk => k_is)
    (case kc => k_is)
    (case x_v => k_exc)
    (case k_v => k_is)
    (case b_v => k_is)
    (case t_v => k_is)
    (case x_m => k_exc)
    (case k_m => k_is)
    (case b_m => k_is)
    (case t_m => k_is)
    (case x_u => k_exc)
    (case k_u => k_is)
    (case b_u => k_is)
    (case t_u => k_is)
    (case x_s => k_exc)
    (case k_s => k_is)
    (case b_s => k_is)
    (case t_s => k_is)
    (case zv => k_is)
    (case eb_vv => k_is)
    (case eh_vv => k_is)
    (case et_vv => k_is)
    (case es_vv => k_is)
    (case eb_uv => k_is)
    (case eh_uv => k_is)
    (case et_uv => k_is)
    (case es_uv => k_is)
    (case eb_uu => k_is)
    (case eh_uu => k_is)
    (case et_uu => k_is)
    (case es_uu => k_is)
    (case eb_mv => k_is)
    (case eh_mv => k_is)
    (case et_mv => k_is)
    (case es_mv => k_is)
    (case eb_mu => k_is)
    (case eh_mu => k_is)
    (case et_mu => k_is)
    (case es_mu => k_is)
    (case eb_mm => k_is)
    (case eh_mm => k_is)
    (case et_mm => k_is)
    (case es_mm => k_is)
    (case eb_sv => k_is)
    (case eh_sv => k_is)
    (case et_sv => k_is)
    (case es_sv => k_is)
    (case eb_su => k_is)
    (case eh_su => k_is)
    (case et_su => k_is)
    (case es_su => k_is)
    (case eb_sm => k_is)
    (case eh_sm => k_is)
    (case et_sm => k_is)
    (case es_sm => k_is)
    (case eb_ss => k_is)
    (case eh_ss => k_is)
    (case et_ss => k_is)
    (case es_ss => k_is)
    (case i0_v => k_is)
    (case i1_v => k_is)
    (case i2_v => k_is)
    (case i3_v => k_is)
    (case i4_v => k_is)
    (case i5_v => k_is)
    (case i6_v => k_is)
    (case i7_v => k_is)
    (case i0_u => k_is)
    (case i1_u => k_is)
    (case i2_u => k_is)
    (case i3_u => k_is)
    (case i4_u => k_is)
    (case i5_u => k_is)
    (case i6_u => k_is)
    (case i7_u => k_is)
    (case i0_m => k_is)
    (case i1_m => k_is)
    (case i2_m => k_is)
    (case i3_m => k_is)
    (case i4_m => k_is)
    (case i5_m => k_is)
    (case i6_m => k_is)
    (case i7_m => k_is)
    (case i0_s => k_is)
    (case i1_s => k_is)
    (case i2_s => k_is)
    (case i3_s => k_is)
    (case i4_s => k_is)
    (case i5_s => k_is)
    (case i6_s => k_is)
    (case i7_s => k_is)
    (case kd_v => k_is)
    (case kt_v => k_is)
    (case ks_v => k_is)
    (case kd_u => k_is)
    (case kt_u => k_is)
    (case ks_u => k_is)
    (case kd_m => k_is)
    (case kt_m => k_is)
    (case ks_m => k_is)
    (case ks_s => k_is)
    (case pg2 => k_is)
    (case hd2 => k_is)
    (case po2 => k_is)
    (case sa2 => k_is)
    (case nn1 => k_is)
    (case nn2 => k_is)
    (case zs => k_is)
    (case mk2 => k_is)
    (case kc2 => k_is)
