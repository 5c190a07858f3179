import PyProof.Rows.All
import Wide.All
import OpenK.AllK
import Wide.FinOn
import HandS.ForMost
import HandS.IsInst
import HandS.Gcd
import HandS.Wide
import HandS.Zip
import HandS.Conv
import HandS.Flow
import HandS.Walk
import HandS.Codes
import KE.GoesMore
import KE.GoesEnum
import PySem.Challenge.RW_sameontrees_k41_whole_products
set_option Elab.async false
set_option linter.all false
set_option maxRecDepth 100000
/-! a small layer of our own over HandS: plain data that never changes, defs by name, zip of a list and a tuple -/
namespace Ly
open PySem PySem.Spec PyProof.Rows L2

/-! ### frames -/
/-- every tuple that is tracked stays -/
def TK (H H' : Hp) : Prop := ∀ b xs, H b = some (.tup xs) → H' b = some (.tup xs)
theorem TK.rfl (H : Hp) : TK H H := fun _ _ h => h
theorem TK.trans {H H1 H2 : Hp} (a : TK H H1) (b : TK H1 H2) : TK H H2 := fun c o h => b c o (a c o h)
theorem tk_same {H H' : Hp} (s : Same H H') : TK H H' := fun b _ h => s b _ h
theorem tk_new {H : Hp} {p : Addr} {o : HO} (h : H p = none) : TK H (upd H p o) := fun b xs e => by
  rw [upd_ne (ne_of_none e h)]; exact e
theorem tk_lst {H : Hp} {p : Addr} {o : HO} {xs : List V} (h : H p = some (.lst xs)) : TK H (upd H p o) := fun b ys e => by
  have : b ≠ p := by
    intro z; subst z; rw [h] at e; cases e
  rw [upd_ne this]; exact e
theorem same_new {H : Hp} {p : Addr} {o : HO} (h : H p = none) : Same H (upd H p o) := fun b x e => by
  rw [upd_ne (ne_of_none e h)]; exact e

/-! ### data: none, bools, ints, texts, tuples of such -/
/-- a tuple that stands: tracked, or of the module's own -/
def ITup (K : PySem.W.Frag) (H : Hp) (a : Addr) (xs : List V) : Prop :=
  H a = some (.tup xs) ∨ ∃ (o : Obj) (its : Array Value) (n : Nat), K.lookup a = some o ∧ o.cls = .type "tuple" ∧ o.data = .seq its n ∧ its.size ≤ sizeLine ∧ Vals xs its.toList
theorem ITup.sq {K : PySem.W.Frag} {H : Hp} {a : Addr} {xs : List V} (h : ITup K H a xs) : SqT K H a xs := h.elim (fun e => .inl (.inl e)) .inr
theorem ITup.mono {K : PySem.W.Frag} {H H' : Hp} {a : Addr} {xs : List V} (t : TK H H') (h : ITup K H a xs) : ITup K H' a xs := h.elim (fun e => .inl (t _ _ e)) .inr
mutual
inductive Im (K : PySem.W.Frag) (H : Hp) : V → PyData → Prop
  | non : Im K H .non .none
  | bl (b : Bool) : Im K H (.bl b) (.bool b)
  | int (i : Int) : Im K H (.int i) (.int i)
  | str (x : Str) : Im K H (.str x) (.str x)
  | tup {a : Addr} {xs : List V} {ds : List PyData} : ITup K H a xs → ImAll K H xs ds → Im K H (.ref a) (.tuple ds)
inductive ImAll (K : PySem.W.Frag) (H : Hp) : List V → List PyData → Prop
  | nil : ImAll K H [] []
  | cons {v : V} {vs : List V} {d : PyData} {ds : List PyData} : Im K H v d → ImAll K H vs ds → ImAll K H (v :: vs) (d :: ds)
end
section
variable {K : PySem.W.Frag} {H H' : Hp}
mutual
theorem Im.mono (t : TK H H') : ∀ (d : PyData) {v : V}, Im K H v d → Im K H' v d
  | .none, _, h => by cases h; exact .non
  | .bool _, _, h => by cases h; exact .bl _
  | .int _, _, h => by cases h; exact .int _
  | .str _, _, h => by cases h; exact .str _
  | .tuple ds, _, h => by cases h with | tup e r => exact .tup (e.mono t) (ImAll.mono t ds r)
  | .list _, _, h => by cases h
  | .dict _, _, h => by cases h
theorem ImAll.mono (t : TK H H') : ∀ (ds : List PyData) {vs : List V}, ImAll K H vs ds → ImAll K H' vs ds
  | [], _, h => by cases h; exact .nil
  | d :: ds, _, h => by cases h with | cons a r => exact .cons (Im.mono t d a) (ImAll.mono t ds r)
end
mutual
theorem Im.dp : ∀ (d : PyData) {v : V}, Im K H v d → Dp K H v d
  | .none, _, h => by cases h; exact .non
  | .bool _, _, h => by cases h; exact .bl _
  | .int _, _, h => by cases h; exact .int _
  | .str _, _, h => by cases h; exact .str _
  | .tuple ds, _, h => by cases h with | tup e r => exact .tup e.sq (ImAll.dp ds r)
  | .list _, _, h => by cases h
  | .dict _, _, h => by cases h
theorem ImAll.dp : ∀ (ds : List PyData) {vs : List V}, ImAll K H vs ds → DpAll K H vs ds
  | [], _, h => by cases h; exact .nil
  | d :: ds, _, h => by cases h with | cons a r => exact .cons (Im.dp d a) (ImAll.dp ds r)
end
theorem ImAll.length : ∀ {vs : List V} {ds : List PyData}, ImAll K H vs ds → vs.length = ds.length
  | [], ds, h => by cases h; rfl
  | _ :: _, _, h => by cases h with | cons _ r => rw [List.length_cons, List.length_cons, ImAll.length r]
theorem ImAll.get : ∀ {vs : List V} {ds : List PyData} {i : Nat} {d : PyData}, ImAll K H vs ds → ds[i]? = some d → ∃ v, vs[i]? = some v ∧ Im K H v d
  | _, _, 0, _, .cons a _, e => by
    simp at e; subst e; exact ⟨_, rfl, a⟩
  | _, _, i + 1, _, .cons _ r, e => by
    obtain ⟨v, h1, h2⟩ := ImAll.get (i := i) r (by simpa using e)
    exact ⟨v, by simpa using h1, h2⟩
  | _, _, _, _, .nil, e => by simp at e
theorem ImAll.getV : ∀ {vs : List V} {ds : List PyData} {i : Nat} {v : V}, ImAll K H vs ds → vs[i]? = some v → ∃ d, ds[i]? = some d ∧ Im K H v d
  | _, _, 0, _, .cons a _, e => by
    simp at e; subst e; exact ⟨_, rfl, a⟩
  | _, _, i + 1, _, .cons _ r, e => by
    obtain ⟨v, h1, h2⟩ := ImAll.getV (i := i) r (by simpa using e)
    exact ⟨v, by simpa using h1, h2⟩
  | _, _, _, _, .nil, e => by simp at e
theorem ImAll.snoc : ∀ {vs : List V} {ds : List PyData} {v : V} {d : PyData}, ImAll K H vs ds → Im K H v d → ImAll K H (vs ++ [v]) (ds ++ [d])
  | _, _, _, _, .nil, a => .cons a .nil
  | _, _, _, _, .cons b r, a => .cons b (ImAll.snoc r a)
theorem Im.tuple_inv {v : V} {ds : List PyData} (h : Im K H v (.tuple ds)) : ∃ a xs, v = .ref a ∧ ITup K H a xs ∧ ImAll K H xs ds := by
  cases h with | tup e r => exact ⟨_, _, rfl, e, r⟩
theorem Im.int_inv {v : V} {i : Int} (h : Im K H v (.int i)) : v = .int i := by cases h; rfl
theorem Im.bool_inv {v : V} {i : Bool} (h : Im K H v (.bool i)) : v = .bl i := by cases h; rfl
theorem Im.str_inv {v : V} {i : Str} (h : Im K H v (.str i)) : v = .str i := by cases h; rfl
theorem Im.none_inv {v : V} (h : Im K H v .none) : v = .non := by cases h; rfl
theorem ImAll.cons_inv {vs : List V} {d : PyData} {ds : List PyData} (h : ImAll K H vs (d :: ds)) : ∃ v r, vs = v :: r ∧ Im K H v d ∧ ImAll K H r ds := by
  cases h with | cons a r => exact ⟨_, _, rfl, a, r⟩
theorem ImAll.nil_inv {vs : List V} (h : ImAll K H vs []) : vs = [] := by cases h; rfl
/-- a new tuple of data -/
theorem Im.new {p : Addr} {xs : List V} {ds : List PyData} (n : H p = none) (r : ImAll K H xs ds) : Im K (upd H p (.tup xs)) (.ref p) (.tuple ds) :=
  .tup (.inl upd_same) (ImAll.mono (tk_new n) ds r)
end

/-! ### defs by their names -/
section
variable (P : Program) (w : World) (K : PySem.W.Frag) (mg : Str → Option Value) (base : Heap)
/-- the def st that the name x holds keeps the promise sp, by at most level k; nothing is raised out of it -/
structure Def (k : Nat) (x : Str) (st : Stmt) (ps : List Str) (sp : Sp) : Prop where
  ex : ∃ (f : Addr) (fd : FuncData), FnOk P w K mg base CX0 k f fd ps sp ∧ mg x = some (.ref f) ∧ PySem.W.keepIn K (.ref f) = true ∧ L2.Binds K fd ps [] ∧ Fun K x x st f fd
end
section
variable {X : Cx} {k : Nat} {x : Str} {st : Stmt} {ps ks : List Str} {sp : Sp} {p pos : Pos} {e : Expr} {es : List Expr} {kws : List Keyword} {t tk : TA} {g : List Value → List Value → List Value} {gV : List V → List V → List V}
theorem pe_def (O : Def X.prog X.w X.K X.mg X.base k x st ps sp) (hr : Room k X.A) (hg : Gl X x) (ha : PA X (e :: es) t) (hdb : (x == ("__debug__" : Str)) = false := by decide)
    (he : starEach (e :: es) X.env = (false, eval e X.env) :: starEach es X.env := by rfl) (hpl : (backTo pos (starEach es X.env)).any (·.1) = false := by rfl) :
    PE X (.Call (.Name x p) (e :: es) [] pos) (tCall sp [] E0 t) := by
  obtain ⟨f, fd, F, hm, hk, hb, _⟩ := O.ex
  exact pe_call F hr hg hm hk hb .nil pass0 ha hdb he hpl
/-- all arguments by their names -/
theorem pe_defK (O : Def X.prog X.w X.K X.mg X.base k x st ps sp) (hr : Room k X.A) (hg : Gl X x) (kb : ∀ f fd, Fun X.K x x st f fd → KBinds X.K fd ps ks g gV) (hkw : PK X kws tk)
    (hall : (backToKw pos (keywordEach kws X.env)).all (·.1.isSome) = true := by rfl) (hks : (backToKw pos (keywordEach kws X.env)).filterMap (·.1) = ks := by rfl) (hdb : (x == ("__debug__" : Str)) = false := by decide)
    (hpl : ((backTo pos (starEach [] X.env)).any (·.1) || (backToKw pos (keywordEach kws X.env)).any (·.1.isNone)) = false := by rfl) :
    PE X (.Call (.Name x p) [] kws pos) (tCallK sp gV E0 tNil tk) := by
  obtain ⟨f, fd, F, hm, hk, _, U⟩ := O.ex
  refine ⟨fun pins s σ H Q I h => wpAny_Call_Name_kw (ld_glob I hg hm (PySem.W.callWith_KW0 (h₀ := X.base) I.ok.mod.kin hk hall (thn (hkw.run pos pins s σ H _ I h) ?_) hpl) hdb)⟩
  rintro ws s2 ⟨zs, H2, I2, rz, q2⟩
  refine ⟨I2.kIn, ?_⟩
  rw [hks]
  exact run_fnk F hr (kb f fd U) pass0 I2 .nil rz q2
end
/-- a name of the module that holds a value -/
theorem pe_gv {X : Cx} {x : Str} {v : V} {pos : Pos} (hg : Gl X x) (h : ∃ u, X.mg x = some u ∧ RelV v u) (hd : (x == ("__debug__" : Str)) = false := by decide) : PE X (.Name x pos) (tC v) := by
  obtain ⟨u, h1, h2⟩ := h
  exact pe_glob hg h1 h2 hd
/-! ### zip of a list and a tuple -/
/-- the list at a and the tuple at b, as they stand at each turn, their items in new pairs -/
def ItzM (K : PySem.W.Frag) (a b : Addr) : It where
  go := fun i H => ∃ xs ys x y, SqL K H a xs ∧ SqT K H b ys ∧ xs[i]? = some x ∧ ys[i]? = some y
  yld := fun i H v H' => ∃ T x y, v = .ref T ∧ H T = none ∧ H' = upd H T (.tup [x, y]) ∧ (∀ l, SqL K H a l → l[i]? = some x) ∧ ∀ l, SqT K H b l → l[i]? = some y
  stop := fun i H => ∃ xs ys : List V, SqL K H a xs ∧ SqT K H b ys ∧ i ≤ xs.length ∧ i ≤ ys.length ∧ (i = xs.length ∨ i = ys.length)
theorem in5 {z a b c d e : Addr} (h : z ∈ [a, b, c, d, e]) : z = a ∨ z = b ∨ z = c ∨ z = d ∨ z = e := by simpa using h
theorem turnM {P : Program} {w : World} {K : PySem.W.Frag} {elts : List Expr} {kk : Nat} {tpos : Pos} {a b z TI TO i1 i2 : Addr} (S : ZipSep2 z TI TO i1 i2 [i1, a] [i2, b]) :
    Turn P w K (.Tuple elts kk tpos) (ItzM K a b) [z, TI, TO, i1, i2] z (fun i h => IsZip h z TI TO .none ∧ IsTupOf2 h TI (.ref i1) (.ref i2) ∧ (∃ x y, IsTupOf2 h TO x y) ∧ h.IsListIter i1 a i ∧ h.IsTupleIter i2 b i) := by
  have n12 : i1 ≠ i2 := fun q => S.sep1_2 (by rw [q]; exact List.mem_cons_self ..)
  have z1 := S.zi1
  have z2 := S.zi2
  have t1 := S.Ti1
  have t2 := S.Ti2
  have keep4 : ∀ {h h' : Heap} {c : Addr} {o : Obj}, (∀ c o, c ≠ z → c ≠ TO → c ≠ i1 → c ≠ i2 → h.get? c = some o → h'.get? c = some o) → c ∉ [z, TI, TO, i1, i2] → h.get? c = some o → h'.get? c = some o :=
    fun k hc q => k _ _ (fun e => hc (by simp [e])) (fun e => hc (by simp [e])) (fun e => hc (by simp [e])) (fun e => hc (by simp [e])) q
  have size5 : ∀ {h : Heap} {i : Nat}, IsZip h z TI TO .none → IsTupOf2 h TI (.ref i1) (.ref i2) → (∃ x y, IsTupOf2 h TO x y) → h.IsListIter i1 a i → h.IsTupleIter i2 b i → ∀ c ∈ [z, TI, TO, i1, i2], c < h.objs.size := by
    intro h i hz hT ⟨x, y, hO⟩ ⟨o1, e1, _⟩ ⟨o2, e2, _⟩ c hc
    rcases in5 hc with q | q | q | q | q <;> subst q
    · exact Heap.lt_size hz
    · exact Heap.lt_size hT
    · exact Heap.lt_size hO
    · exact Heap.lt_size e1
    · exact Heap.lt_size e2
  refine { mem := List.mem_cons_self .., obj := ?_, keep := ?_, item := ?_, done := ?_, self := fun A i s Q E st h => wpAny_pyIter_zip st.1 h }
  · rintro i h ⟨hz, hT, ⟨x, y, hO⟩, ⟨o1, e1, _, d1⟩, ⟨o2, e2, _, d2⟩⟩ c hc
    rcases in5 hc with q | q | q | q | q <;> subst q
    · exact ⟨_, hz, fun v q => nomatch q⟩
    · exact ⟨_, hT, fun v q => nomatch q⟩
    · exact ⟨_, hO, fun v q => nomatch q⟩
    · exact ⟨o1, e1, fun v q => by rw [d1] at q; cases q⟩
    · exact ⟨o2, e2, fun v q => by rw [d2] at q; cases q⟩
  · rintro i h h' ⟨hz, hT, ⟨x, y, hO⟩, l1, l2⟩ k
    exact ⟨k z (by simp) _ hz, k TI (by simp) _ hT, ⟨x, y, k TO (by simp) _ hO⟩, l1.at fun o q => k i1 (by simp) o q, l2.at fun o q => k i2 (by simp) o q⟩
  · intro X hP hw hK hc i pins s σ H E I hf st hg
    subst hP hw hK
    obtain ⟨hz, hT, hO, l1, l2⟩ := st
    have lts := size5 hz hT hO l1 l2
    obtain ⟨x0, y0, hO⟩ := hO
    obtain ⟨xs, ys, x, y, qx, qy, hx, hy⟩ := hg
    obtain ⟨its, rv, p, _⟩ := I.list qx
    obtain ⟨its2, rv2, p2, _⟩ := I.tuple qy
    obtain ⟨u, hu, ru⟩ := rv.get hx
    obtain ⟨u2, hu2, ru2⟩ := rv2.get hy
    have a1 : a ≠ i1 := fun q => by
      obtain ⟨o, ho, c, _⟩ := l1
      obtain ⟨o', ho', c', _⟩ := p.isList
      rw [← q, ho'] at ho; cases ho
      rw [c'] at c; simp at c
    have b2 : b ≠ i2 := fun q => by
      obtain ⟨o, ho, c, _⟩ := l2
      obtain ⟨o', ho', c', _⟩ := p2
      rw [← q, ho'] at ho; cases ho
      rw [c'] at c; simp at c
    have hd : X.A.in1.handled = none := I.ok.hd hc
    have D1 := Draws.list (prog := X.prog) (w := X.w) hd i1 a a1 its.toArray
    have D2 := Draws.tuple (prog := X.prog) (w := X.w) hd i2 b b2 its2.toArray
    have s1 : i < its.toArray.size := by
      have := (List.getElem?_eq_some_iff.mp hu).1
      simpa using this
    have s2 : i < its2.toArray.size := by
      have := (List.getElem?_eq_some_iff.mp hu2).1
      simpa using this
    refine wpAny_pyNext_zipD2_item S D1 D2 hz hT hO ⟨l1, p.isList⟩ ⟨l2, p2⟩ s1 s2 fun v1 v2 h' tk e1 e2 z' O' st1 st2 hN hsz hk => ?_
    have ev1 : u = v1 := by
      have : its[i]? = some v1 := by simpa using e1
      rw [hu] at this; exact Option.some.inj this
    have ev2 : u2 = v2 := by
      have : its2[i]? = some v2 := by simpa using e2
      rw [hu2] at this; exact Option.some.inj this
    subst ev1 ev2
    refine ⟨_, rfl, wpAny_letOwnedTupleGo_zip (s := { s with heap := h', toks := tk }) z' fun h2 zz sb => ?_⟩
    have zlt : z < s.heap.objs.size := lts z (by simp)
    have pair : h2.get? s.heap.objs.size = some { cls := .type "tuple", data := .seq #[u, u2] } := (sb.2 _ (Nat.ne_of_gt zlt)).trans hN
    have new : ObjOk X.prog X.w (upd H s.heap.objs.size (.tup [x, y])) h2 s.heap.objs.size (.tup [x, y]) := ⟨by show 2 ≤ sizeLine; decide, [u, u2], .cons ru (.cons ru2 .nil), ⟨_, pair, rfl, _, rfl⟩⟩
    have I2 : Inv X pins σ (upd H s.heap.objs.size (.tup [x, y])) { s with heap := h2, toks := tk } :=
      I.turnedNew (t' := tk) (ch := [z, TI, TO, i1, i2]) (fun c o hb q => (sb.2 c (fun e => hb (by simp [e]))).trans (keep4 hk hb q)) hf (Nat.le_refl _) new
    refine ⟨.ref s.heap.objs.size, _, I2, rfl, ⟨_, x, y, rfl, I.hok.fresh (Nat.le_refl _), rfl, fun l hl => by rw [I.list_inj hl qx]; exact hx, fun l hl => by rw [I.tuple_inj hl qy]; exact hy⟩, ⟨zz, ?_, ⟨u, u2, ?_⟩, ?_, ?_⟩, fun c hc => ?_⟩
    · exact (sb.2 _ S.TIz).trans (hk _ _ S.TIz S.TITO S.TIi1 S.TIi2 hT)
    · exact (sb.2 _ S.TOz).trans O'
    · exact st1.1.at fun o q => (sb.2 _ z1.symm).trans q
    · exact st2.1.at fun o q => (sb.2 _ z2.symm).trans q
    · rw [upd_ne (Nat.ne_of_lt (lts c hc))]
      exact (hf c hc).1
  · intro X hP hw hK hc i pins s σ H E I hf st hg
    subst hP hw hK
    obtain ⟨hz, hT, ⟨x0, y0, hO⟩, l1, l2⟩ := st
    obtain ⟨xs, ys, qx, qy, le1, le2, hend⟩ := hg
    obtain ⟨its, rv, p, _⟩ := I.list qx
    obtain ⟨its2, rv2, p2, _⟩ := I.tuple qy
    have a1 : a ≠ i1 := fun q => by
      obtain ⟨o, ho, c, _⟩ := l1
      obtain ⟨o', ho', c', _⟩ := p.isList
      rw [← q, ho'] at ho; cases ho
      rw [c'] at c; simp at c
    have b2 : b ≠ i2 := fun q => by
      obtain ⟨o, ho, c, _⟩ := l2
      obtain ⟨o', ho', c', _⟩ := p2
      rw [← q, ho'] at ho; cases ho
      rw [c'] at c; simp at c
    have hd : X.A.in1.handled = none := I.ok.hd hc
    have e1 := rv.length
    have e2 := rv2.length
    refine wpAny_pyNext_zipD2_end S (Draws.list (prog := X.prog) (w := X.w) hd i1 a a1 its.toArray) (Draws.tuple (prog := X.prog) (w := X.w) hd i2 b b2 its2.toArray) hz hT hO ⟨l1, p.isList⟩ ⟨l2, p2⟩ (by simp; omega) (by simp; omega) (by simp; omega) fun h' tk hk => ?_
    exact ⟨rfl, I.turnedL (t' := tk) (ch := [z, TI, TO, i1, i2]) (fun c o hb q => keep4 hk hb q) hf⟩
def iZipM (K : PySem.W.Frag) (ta : TA) : TI := fun σ H R => ta σ H fun vs H1 => ∃ a b xs ys, vs = [.ref a, .ref b] ∧ SqL K H1 a xs ∧ SqT K H1 b ys ∧ R (ItzM K a b) H1
theorem pi_zipM {X : Cx} {e e2 : Expr} {ta : TA} {p pos tpos : Pos} {elts : List Expr} {kk : Nat} (hg : Gl X "zip") (hm : X.mg "zip" = none) (ha : PA X [e, e2] ta)
    (hs : starEach [e, e2] X.env = (false, eval e X.env) :: starEach [e2] X.env := by rfl) (hpl : (backTo pos (starEach [e2] X.env)).any (·.1) = false := by rfl) :
    PI X (.Tuple elts kk tpos) (.Call (.Name "zip" p) [e, e2] [] pos) (iZipM X.K ta) := by
  refine ⟨fun pins s σ H R I h => Call_ (ld_blt I hg hm PyProof.Rows.boot_zip (PyProof.Rows.callWith_type1 (thn (ha.run pos pins s σ H _ I h) ?_) hs hpl))⟩
  rintro us s1 ⟨vs, H1, I1, r1, a, b, xs, ys, rfl, qx, qy, q⟩
  cases r1 with | cons r rr => cases rr with | cons r' rr =>
  cases rr
  cases r
  cases r'
  obtain ⟨its, rv, p1, _⟩ := I1.list qx
  obtain ⟨its2, rv2, p2, _⟩ := I1.tuple qy
  obtain ⟨o2, ho2, _⟩ := id p2
  have lb : b < s1.heap.objs.size := Heap.lt_size ho2
  have la : a < s1.heap.objs.size := p1.lt
  have S := zip_sep2 (N := s1.heap.objs.size) (fp1 := [a]) (fp2 := [b]) (fun c hc => by simp at hc; rw [hc]; exact la) (fun c hc => by simp at hc; rw [hc]; exact lb)
  refine zip_begins2 (begins_list a its.toArray) (begins_tuple b its2.toArray) p1.isList p2 fun h' hz hT hO g1 g2 hsz hk => wpAny_pyIter_zip hz ?_
  have I2 : Inv X pins σ H1 { s1 with heap := h' } := I1.kept (t' := s1.toks) hk
  refine ⟨_, [s1.heap.objs.size + 4, s1.heap.objs.size + 2, s1.heap.objs.size + 3, s1.heap.objs.size, s1.heap.objs.size + 1], _, _, H1, rfl, I2, turnM S, ⟨hz, hT, ⟨_, _, hO⟩, ⟨_, g1, rfl, rfl⟩, ⟨_, g2, rfl, rfl⟩⟩, fun c hc => ?_, q⟩
  have le : s1.heap.objs.size ≤ c := by
    rcases in5 hc with z | z | z | z | z <;> rw [z] <;> first | exact Nat.le_refl _ | exact Nat.le_add_right _ _
  exact I1.fpOk le (I1.hok.fresh le)
theorem walk_zipM {K : PySem.W.Frag} {a b : Addr} {xs ys : List V} (e : xs.length = ys.length) : Walk (ItzM K a b) xs.length (fun H => SqL K H a xs ∧ SqT K H b ys) (YPair (fun i => xs[i]?) (fun i => ys[i]?)) := by
  refine ⟨fun i _ hi q => ?_, fun _ q => ⟨xs, ys, q.1, q.2, Nat.le_refl _, Nat.le_of_eq e, .inl rfl⟩, fun i H v H' _ q y => ?_⟩
  · have h2 : i < ys.length := by omega
    exact ⟨xs, ys, xs[i], ys[i], q.1, q.2, by simp [hi], by simp [h2]⟩
  · obtain ⟨T, x, z, h1, h2, h3, h4, h5⟩ := y
    exact ⟨T, x, z, h1, h2, h3, h4 xs q.1, h5 ys q.2⟩
theorem walk_zipT {K : PySem.W.Frag} {a b : Addr} {xs ys : List V} (e : xs.length = ys.length) : Walk (RZ.ItzT K a b) xs.length (fun H => SqT K H a xs ∧ SqT K H b ys) (YPair (fun i => xs[i]?) (fun i => ys[i]?)) := by
  refine ⟨fun i _ hi q => ?_, fun _ q => ⟨xs, ys, q.1, q.2, .inl (Nat.le_refl _)⟩, fun i H v H' _ q y => ?_⟩
  · have h2 : i < ys.length := by omega
    exact ⟨xs, ys, xs[i], ys[i], q.1, q.2, by simp [hi], by simp [h2]⟩
  · obtain ⟨T, x, z, h1, h2, h3, h4, h5⟩ := y
    exact ⟨T, x, z, h1, h2, h3, h4 xs q.1, h5 ys q.2⟩

/-! ### lists of ints as data -/
section
variable {K : PySem.W.Frag} {H : Hp}
theorem dp_ints : ∀ ns : List Int, DpAll K H (ns.map V.int) (ns.map PyData.int)
  | [] => .nil
  | n :: ns => .cons (.int n) (dp_ints ns)
theorem lay_ints : ∀ ns : List Int, PyData.canLayAll0 (ns.map PyData.int) = true
  | [] => by simp [PyData.canLayAll0]
  | n :: ns => by simp [PyData.canLayAll0, PyData.canLay0, lay_ints ns]
theorem deep_ints : ∀ ns : List Int, PyData.depthAll (ns.map PyData.int) ≤ 1
  | [] => by simp [PyData.depthAll]
  | n :: ns => by
    have := deep_ints ns
    simp only [List.map_cons, PyData.depthAll, PyData.depth]
    omega
theorem shaped_ints (ns : List Int) : SeqAt.shaped (.list (ns.map PyData.int)) = true := by
  have h := deep_ints ns
  have h2 : PyData.depth (.list (ns.map PyData.int)) ≤ 64 := by
    simp only [PyData.depth]; omega
  show (PyData.canLay0 (.list (ns.map PyData.int)) && decide (PyData.depth (.list (ns.map PyData.int)) ≤ 64)) = true
  rw [Bool.and_eq_true]
  exact ⟨by simp only [PyData.canLay0]; exact lay_ints ns, decide_eq_true h2⟩
theorem eqv_ints_nil (ns : List Int) : PyData.eqv (.list (ns.map PyData.int)) (.list []) = ns.isEmpty := by
  cases ns <;> simp [PyData.eqv, PyData.eqvAll]
end
/-! ### rules with the written part told: what they ask hangs on no block's own things -/
section
variable {X : Cx} (K : PySem.W.Frag)
theorem kix_tup (e : X.K = K := by rfl) : IxR X (rIxT K) := by subst e; exact ix_tup
theorem kix_list (e : X.K = K := by rfl) : IxR X (rIxL K) := by subst e; exact ix_list
def rLenK : List V → Hp → VK → Prop := fun xs H Q => ∃ p ys, xs = [.ref p] ∧ (SqL K H p ys ∨ SqT K H p ys) ∧ Q (.int ys.length) H
theorem kcall_len (e : X.K = K := by rfl) : CallR X (.builtin "len") (rLenK K) := by subst e; exact call_len_seq
def rTupK : List V → Hp → VK → Prop := fun xs H Q => ∃ p ys, xs = [.ref p] ∧ ((SqL K H p ys ∧ ∀ l, H l = none → Q (.ref l) (upd H l (.tup ys))) ∨ (SqT K H p ys ∧ Q (.ref p) H))
theorem kcall_tuple (e : X.K = K := by rfl) : CallR X (.type "tuple") (rTupK K) := by subst e; exact call_tuple_of
def rLstK : List V → Hp → VK → Prop := fun xs H Q => ∃ p ys, xs = [.ref p] ∧ (SqL K H p ys ∨ SqT K H p ys) ∧ ∀ l, H l = none → Q (.ref l) (upd H l (.lst ys))
theorem kcall_list (e : X.K = K := by rfl) : CallR X (.type "list") (rLstK K) := by subst e; exact call_list_of
theorem kcall_isi (e : X.K = K := by rfl) : CallR X (.builtin "isinstance") (rIsi K) := by subst e; exact call_isi
theorem kcr_all (hc : X.calm = true := by rfl) (e : X.K = K := by rfl) : CallR X (.builtin "all") (rAll K) := by subst e; exact cr_all hc
theorem kop_eqD (hu : X.A.units + 64 < cLine) (e : X.K = K := by rfl) : OpR X (compareOp .Eq) (rEqD K) := by subst e; exact op_eqD hu
theorem kop_neD (hu : X.A.units + 64 < cLine) (e : X.K = K := by rfl) : OpR X (compareOp .NotEq) (rNeD K) := by subst e; exact op_neD hu
theorem kpi_tup {tg l : Expr} {tl : TE} (hl : PE X l tl) (e : X.K = K := by rfl) : PI X tg l (iTup K tl) := by subst e; exact pi_tup hl
theorem kpi_list {tg l : Expr} {tl : TE} (hl : PE X l tl) (e : X.K = K := by rfl) : PI X tg l (iList K tl) := by subst e; exact pi_list hl
theorem kpg_tup {es : List Expr} {k : Nat} {pos : Pos} {t : TGs} {n : Nat} (hc : X.calm = true) (h : PGs X es t) (hn : (assignEach es X.env).length = n := by rfl) (hst : (assignEach es X.env).findIdx? (·.1) = none := by rfl) (e : X.K = K := by rfl) : PG X (.Tuple es k pos) (gTup K n t) := by
  subst e; exact pg_tup hc h hn hst
theorem kpi_zipM {e1 e2 : Expr} {ta : TA} {p pos tpos : Pos} {elts : List Expr} {kk : Nat} (hg : Gl X "zip") (hm : X.mg "zip" = none) (ha : PA X [e1, e2] ta)
    (hs : starEach [e1, e2] X.env = (false, eval e1 X.env) :: starEach [e2] X.env := by rfl) (hpl : (backTo pos (starEach [e2] X.env)).any (·.1) = false := by rfl) (e : X.K = K := by rfl) :
    PI X (.Tuple elts kk tpos) (.Call (.Name "zip" p) [e1, e2] [] pos) (iZipM K ta) := by subst e; exact pi_zipM hg hm ha hs hpl
theorem kpi_zip {e1 e2 : Expr} {ta : TA} {p pos tpos : Pos} {elts : List Expr} {kk : Nat} (hg : Gl X "zip") (hm : X.mg "zip" = none) (ha : PA X [e1, e2] ta)
    (hs : starEach [e1, e2] X.env = (false, eval e1 X.env) :: starEach [e2] X.env := by rfl) (hpl : (backTo pos (starEach [e2] X.env)).any (·.1) = false := by rfl) (e : X.K = K := by rfl) :
    PI X (.Tuple elts kk tpos) (.Call (.Name "zip" p) [e1, e2] [] pos) (RZ.iZipA K ta) := by subst e; exact RZ.pi_zipA hg hm ha hs hpl
end
/-! ### a comprehension without tests -/
theorem lc_all {J : It} {n : Nat} {G : Hp → Prop} {Y : Nat → Hp → V → Hp → Prop} (w : Walk J n G Y) {g : TG} {te : TE} {vs : List Nat} {σ : L2.St} {H1 : Hp} {D : Addr} {Qd : Hp → Prop} (Pv : Nat → Hp → Prop) (h0 : Pv 0 (upd H1 D (.lst []))) (hG : ∀ i H, i ≤ n → Pv i H → G H)
    (hs : ∀ i x H H', i < n → Pv i H → Y i H x H' → g x (wipe σ vs) H' fun σ2 H2 => wipe σ2 vs = wipe σ vs ∧ te σ2 H2 fun y H4 => ∃ acc, H4 D = some (.lst acc) ∧ acc.length < sizeLine ∧ Pv (i + 1) (upd H4 D (.lst (acc ++ [y]))))
    (hd : ∀ H, Pv n H → Qd H) :
    ∃ W : Nat → Nat → Hp → Prop, (∃ m, W 0 m (upd H1 D (.lst []))) ∧ ∀ i m H, W i m H →
      (J.stop i H ∧ Qd H) ∨ (J.go i H ∧ ∃ Nx : Hp → Prop, (∀ H', Nx H' → ∃ m', m' < m ∧ W (i + 1) m' H') ∧ ∀ x H', J.yld i H x H' → g x (wipe σ vs) H' fun σ2 H2 => wipe σ2 vs = wipe σ vs ∧ tYes σ2 H2 fun b H3 =>
        if b = true then te σ2 H3 fun y H4 => ∃ acc, H4 D = some (.lst acc) ∧ acc.length < sizeLine ∧ Nx (upd H4 D (.lst (acc ++ [y]))) else Nx H3) := by
  refine lc_it w Pv h0 hG (fun i x H H' hi p y => ?_) hd
  have h := hs i x H H' hi p y
  refine Eq.mp (congrArg (g x (wipe σ vs) H') ?_) h
  funext σ2 H2
  simp only [tYes, if_true]
/-- nothing is kept but the values that came: the list holds f of each turn -/
theorem lc_acc {J : It} {n : Nat} {G : Hp → Prop} {Y : Nat → Hp → V → Hp → Prop} (w : Walk J n G Y) {g : TG} {te : TE} {vs : List Nat} {σ : L2.St} {H1 : Hp} {D : Addr} {Qd : Hp → Prop} (Pv : Nat → List V → Hp → Prop) (hn : n < sizeLine) (h0 : Pv 0 [] (upd H1 D (.lst []))) (hG : ∀ i acc H, i ≤ n → Pv i acc H → G H)
    (hs : ∀ i x acc H H', i < n → Pv i acc H → H D = some (.lst acc) → acc.length = i → Y i H x H' → g x (wipe σ vs) H' fun σ2 H2 => wipe σ2 vs = wipe σ vs ∧ te σ2 H2 fun y H4 => H4 D = some (.lst acc) ∧ Pv (i + 1) (acc ++ [y]) (upd H4 D (.lst (acc ++ [y]))))
    (mono : ∀ σ H (Q Q' : VK), (∀ v H1, Q v H1 → Q' v H1) → te σ H Q → te σ H Q') (gmono : ∀ x σ H (Q Q' : L2.St → Hp → Prop), (∀ σ1 H1, Q σ1 H1 → Q' σ1 H1) → g x σ H Q → g x σ H Q')
    (hd : ∀ acc H, Pv n acc H → H D = some (.lst acc) → acc.length = n → Qd H) :
    ∃ W : Nat → Nat → Hp → Prop, (∃ m, W 0 m (upd H1 D (.lst []))) ∧ ∀ i m H, W i m H →
      (J.stop i H ∧ Qd H) ∨ (J.go i H ∧ ∃ Nx : Hp → Prop, (∀ H', Nx H' → ∃ m', m' < m ∧ W (i + 1) m' H') ∧ ∀ x H', J.yld i H x H' → g x (wipe σ vs) H' fun σ2 H2 => wipe σ2 vs = wipe σ vs ∧ tYes σ2 H2 fun b H3 =>
        if b = true then te σ2 H3 fun y H4 => ∃ acc, H4 D = some (.lst acc) ∧ acc.length < sizeLine ∧ Nx (upd H4 D (.lst (acc ++ [y]))) else Nx H3) := by
  refine lc_all w (fun i H => ∃ acc, acc.length = i ∧ H D = some (.lst acc) ∧ Pv i acc H) ⟨[], rfl, upd_same, h0⟩ (fun i H hi ⟨acc, _, _, p⟩ => hG i acc H hi p) (fun i x H H' hi ⟨acc, l, e, p⟩ y => ?_) (fun H ⟨acc, l, e, p⟩ => hd acc H p e l)
  refine gmono _ _ _ _ _ (fun σ1 H2 ⟨a, b⟩ => ⟨a, mono _ _ _ _ (fun v H3 ⟨c, d⟩ => ⟨acc, c, by omega, acc ++ [v], by rw [List.length_append, l]; rfl, upd_same, d⟩) b⟩) (hs i x acc H H' hi p e l y)

/-! ### the end: where each def stands behind the top -/
/-- the name x holds the def st -/
def Here (K : PySem.W.Frag) (mg : Str → Option Value) (x : Str) (st : Stmt) : Prop := ∃ f fd, mg x = some (.ref f) ∧ Fun K x x st f fd
section
variable {P : Program} {w : World} {K : PySem.W.Frag} {mg : Str → Option Value} {base h : Heap}
theorem here (X : K.In h) (G : h.Ns mainGlobals mg) {x : Str} {st : Stmt} {f : Addr} {oc : Value} {od an : Option Addr} {osl : Array (Option Value)} {kV doc pm cdv ct : Value}
    (a : PySem.W.nsIn K mainGlobals x = some (some (.ref f)))
    (l : K.lookup f = some ⟨oc, od, .func (PySem.W.fnOf x x (defArgs st) (defBody st) (defScope st) .none kV doc pm an cdv ct), osl⟩)
    (c : PySem.W.codeIn K cdv x = true) (k : PySem.W.keepIn K (.ref f) = true) : Here K mg x st := ⟨f, _, PySem.W.mg_of X G a, fun_mk l c k⟩
theorem Here.toDef {x : Str} {st : Stmt} {k : Nat} {ps : List Str} {sp : Sp} (z : Here K mg x st) (ok : ∀ {f : Addr} {fd : FuncData}, Fun K x x st f fd → FnOk P w K mg base CX0 k f fd ps sp)
    (b : ∀ (kV doc pm : Value) (an : Option Addr) (cdv ct : Value) (us : List Value), us.length = ps.length → bindArgs (PySem.W.fnOf x x (defArgs st) (defBody st) (defScope st) .none kV doc pm an cdv ct) ⟨us, []⟩ = pure (ps.zip us)) : Def P w K mg base k x st ps sp := by
  obtain ⟨f, fd, hm, F⟩ := z
  exact ⟨f, fd, ok F, hm, F.kp, F.binds b, F⟩
theorem pair_mk (X : K.In h) (G : h.Ns mainGlobals mg) {x : Str} {a : Addr} {i j : Int} {t u : Tok} {dd : Option Addr} {n : Nat} {sl : Array (Option Value)}
    (h1 : PySem.W.nsIn K mainGlobals x = some (some (.ref a))) (h2 : K.lookup a = some ⟨.type "tuple", dd, .seq #[.int i t, .int j u] n, sl⟩) : ∃ a, mg x = some (.ref a) ∧ ∀ H, ITup K H a [.int i, .int j] :=
  ⟨a, PySem.W.mg_of X G h1, fun _ => .inr ⟨_, _, _, h2, rfl, rfl, by show 2 ≤ sizeLine; decide, .cons ⟨_, rfl⟩ (.cons ⟨_, rfl⟩ .nil)⟩⟩
end
end Ly

set_option linter.all false
set_option maxRecDepth 10000
/-! plain mathematics: ratios, sums of products, products of matrices -/
namespace Mt
theorem made_num {t b : Int} (hb : 0 < b) : t / ((Nat.gcd t.natAbs b.natAbs : Nat) : Int) = (Rat.divInt t b).num := by
  rw [Rat.num_divInt, Int.sign_eq_one_of_pos hb, Int.one_mul, Int.gcd_comm]; rfl
theorem made_den {t b : Int} (hb : 0 < b) : b / ((Nat.gcd t.natAbs b.natAbs : Nat) : Int) = ((Rat.divInt t b).den : Int) := by
  rw [Rat.den_divInt, if_neg (by omega), Int.gcd_comm]
  show b / ((Nat.gcd t.natAbs b.natAbs : Nat) : Int) = ((b.natAbs / Nat.gcd t.natAbs b.natAbs : Nat) : Int)
  have e : b = (b.natAbs : Int) := by omega
  rw [Int.natCast_ediv]
  congr 1
theorem gcd_pos {t b : Int} (hb : 0 < b) : (0 : Int) < ((Nat.gcd t.natAbs b.natAbs : Nat) : Int) := by
  have : 0 < Nat.gcd t.natAbs b.natAbs := Nat.gcd_pos_of_pos_right _ (by omega)
  omega
theorem gcd_le {t b : Int} (hb : 0 < b) : ((Nat.gcd t.natAbs b.natAbs : Nat) : Int).natAbs ≤ b.natAbs := by
  show Nat.gcd t.natAbs b.natAbs ≤ b.natAbs
  exact Nat.gcd_le_right _ (by omega)
theorem den_pos (q : Rat) : (0 : Int) < (q.den : Int) := by have := q.den_pos; omega
theorem cop (q : Rat) : Nat.gcd q.num.natAbs ((q.den : Int)).natAbs = 1 := q.reduced
theorem add_as (x y : Rat) : Rat.divInt (x.num * (y.den : Int) + y.num * (x.den : Int)) ((x.den : Int) * (y.den : Int)) = x + y := by
  have hx : (x.den : Int) ≠ 0 := by have := den_pos x; omega
  have hy : (y.den : Int) ≠ 0 := by have := den_pos y; omega
  rw [← Rat.divInt_add_divInt _ _ hx hy, Rat.num_divInt_den, Rat.num_divInt_den]
theorem mul_as (x y : Rat) : Rat.divInt (x.num * y.num) ((x.den : Int) * (y.den : Int)) = x * y := by
  rw [← Rat.divInt_mul_divInt, Rat.num_divInt_den, Rat.num_divInt_den]
theorem num_zero {q : Rat} (h : q.num = 0) : q = 0 := by
  have := Rat.num_divInt_den q
  rw [h] at this
  rw [← this]
  simp
/-- bounds of both parts -/
def Bd (n m : Nat) (q : Rat) : Prop := q.num.natAbs < 2 ^ n ∧ ((q.den : Int)).natAbs < 2 ^ m
theorem Bd.mono {n m n' m' : Nat} {q : Rat} (h : Bd n m q) (hn : n ≤ n') (hm : m ≤ m') : Bd n' m' q :=
  ⟨Nat.lt_of_lt_of_le h.1 (Nat.pow_le_pow_right (by decide) hn), Nat.lt_of_lt_of_le h.2 (Nat.pow_le_pow_right (by decide) hm)⟩
theorem bd_divInt {n m : Nat} {t b : Int} (hb : 0 < b) (ht : t.natAbs < 2 ^ n) (hm : b.natAbs < 2 ^ m) : Bd n m (Rat.divInt t b) := by
  refine ⟨?_, ?_⟩
  · rw [← made_num hb, Int.natAbs_ediv_of_dvd (Int.ofNat_dvd_left.mpr (Nat.gcd_dvd_left _ _))]
    exact Nat.lt_of_le_of_lt (Nat.div_le_self _ _) ht
  · rw [← made_den hb, Int.natAbs_ediv_of_dvd (Int.ofNat_dvd_left.mpr (Nat.gcd_dvd_right _ _))]
    exact Nat.lt_of_le_of_lt (Nat.div_le_self _ _) hm
theorem lt_mul {i j : Int} {a b : Nat} (ha : i.natAbs < 2 ^ a) (hb : j.natAbs < 2 ^ b) : (i * j).natAbs < 2 ^ (a + b) := by
  rw [Int.natAbs_mul, Nat.pow_add]
  exact Nat.mul_lt_mul'' ha hb
theorem lt_add {i j : Int} {a : Nat} (ha : i.natAbs < 2 ^ a) (hb : j.natAbs < 2 ^ a) : (i + j).natAbs < 2 ^ (a + 1) := by
  have := Int.natAbs_add_le i j
  rw [Nat.pow_succ]; omega
theorem lt_up {i : Int} {a b : Nat} (ha : i.natAbs < 2 ^ a) (h : a ≤ b) : i.natAbs < 2 ^ b := Nat.lt_of_lt_of_le ha (Nat.pow_le_pow_right (by decide) h)
theorem Bd.mul {n m n' m' : Nat} {x y : Rat} (h : Bd n m x) (k : Bd n' m' y) : Bd (n + n') (m + m') (x * y) := by
  rw [← mul_as]
  exact bd_divInt (Int.mul_pos (den_pos x) (den_pos y)) (lt_mul h.1 k.1) (lt_mul h.2 k.2)
theorem Bd.add {n m n' m' N : Nat} {x y : Rat} (h : Bd n m x) (k : Bd n' m' y) (h1 : n + m' ≤ N) (h2 : n' + m ≤ N) : Bd (N + 1) (m + m') (x + y) := by
  rw [← add_as]
  exact bd_divInt (Int.mul_pos (den_pos x) (den_pos y)) (lt_add (lt_up (lt_mul h.1 k.2) h1) (lt_up (lt_mul k.1 h.2) h2)) (lt_mul h.2 k.2)
theorem bd_zero {n m : Nat} (hm : 1 ≤ m) : Bd n m 0 := by
  refine ⟨?_, ?_⟩
  · show 0 < 2 ^ n
    exact Nat.two_pow_pos n
  · show 1 < 2 ^ m
    exact Nat.lt_of_lt_of_le (by decide : 1 < 2 ^ 1) (Nat.pow_le_pow_right (by decide) hm)

/-! ### sums of products -/
def dot : List Rat → List Rat → Rat
  | x :: xs, y :: ys => x * y + dot xs ys
  | _, _ => 0
theorem dot_nil (ys : List Rat) : dot [] ys = 0 := by cases ys <;> rfl
theorem dot_nil2 (xs : List Rat) : dot xs [] = 0 := by cases xs <;> rfl
theorem dot_take : ∀ {xs ys : List Rat} {i : Nat} {x y : Rat}, xs[i]? = some x → ys[i]? = some y → dot (xs.take (i + 1)) (ys.take (i + 1)) = dot (xs.take i) (ys.take i) + x * y
  | a :: xs, b :: ys, 0, x, y, h, k => by
    simp at h k; subst h k
    simp [dot]; grind
  | a :: xs, b :: ys, i + 1, x, y, h, k => by
    have ih := dot_take (xs := xs) (ys := ys) (i := i) (by simpa using h) (by simpa using k)
    simp only [List.take_succ_cons, dot] at ih ⊢
    rw [ih]; grind
  | [], _, _, _, _, h, _ => by simp at h
  | _ :: _, [], _, _, _, _, k => by simp at k
/-- a row and a multiple of another one -/
def addS (acc : List Rat) (w : Rat) (r : List Rat) : List Rat := List.zipWith (fun o t => o + w * t) acc r
/-- the sum of multiples of rows, ahead of it acc -/
def comb : List Rat → List (List Rat) → List Rat → List Rat
  | w :: ws, r :: rs, acc => comb ws rs (addS acc w r)
  | _, _, acc => acc
theorem addS_length {acc r : List Rat} {w : Rat} (h : r.length = acc.length) : (addS acc w r).length = acc.length := by
  unfold addS; rw [List.length_zipWith]; omega
theorem addS_zero : ∀ {acc r : List Rat}, r.length = acc.length → addS acc 0 r = acc
  | [], [], _ => rfl
  | a :: acc, b :: r, h => by
    have ih := addS_zero (acc := acc) (r := r) (by simpa using h)
    show (a + 0 * b) :: addS acc 0 r = a :: acc
    rw [ih, Rat.zero_mul, Rat.add_zero]
  | [], _ :: _, h => by simp at h
  | _ :: _, [], h => by simp at h
theorem addS_get {acc r : List Rat} {w : Rat} {k : Nat} {a b : Rat} (ha : acc[k]? = some a) (hb : r[k]? = some b) : (addS acc w r)[k]? = some (a + w * b) := by
  unfold addS; rw [List.getElem?_zipWith, ha, hb]
theorem comb_length : ∀ {ws : List Rat} {rs : List (List Rat)} {acc : List Rat}, (∀ r ∈ rs, r.length = acc.length) → (comb ws rs acc).length = acc.length
  | [], _, _, _ => by simp [comb]
  | _ :: _, [], _, _ => by simp [comb]
  | w :: ws, r :: rs, acc, h => by
    have h0 := h r (List.mem_cons_self ..)
    have e := addS_length (w := w) h0
    show (comb ws rs (addS acc w r)).length = acc.length
    rw [comb_length (fun q hq => by rw [e]; exact h q (List.mem_cons_of_mem _ hq)), e]
/-- the k-th column -/
def col (rs : List (List Rat)) (k : Nat) : List Rat := rs.map fun r => r.getD k 0
theorem comb_get : ∀ {ws : List Rat} {rs : List (List Rat)} {acc : List Rat} {k : Nat} {a : Rat}, (∀ r ∈ rs, r.length = acc.length) → acc[k]? = some a → (comb ws rs acc)[k]? = some (a + dot ws (col rs k))
  | [], rs, acc, k, a, _, ha => by
    rw [dot_nil, Rat.add_zero]; simpa [comb] using ha
  | _ :: _, [], acc, k, a, _, ha => by
    show acc[k]? = some (a + dot _ [])
    rw [dot_nil2, Rat.add_zero]; exact ha
  | w :: ws, r :: rs, acc, k, a, h, ha => by
    have h0 := h r (List.mem_cons_self ..)
    have hk : k < r.length := by rw [h0]; exact (List.getElem?_eq_some_iff.mp ha).1
    have hr : r[k]? = some r[k] := List.getElem?_eq_getElem hk
    have e := addS_length (w := w) h0
    have ih := comb_get (ws := ws) (rs := rs) (acc := addS acc w r) (k := k) (fun q hq => by rw [e]; exact h q (List.mem_cons_of_mem _ hq)) (addS_get (w := w) ha hr)
    show (comb ws rs (addS acc w r))[k]? = some (a + (w * r.getD k 0 + dot ws (col rs k)))
    rw [ih, List.getD_eq_getElem?_getD, hr]
    show some (a + w * r[k] + dot ws (col rs k)) = some (a + (w * r[k] + dot ws (col rs k)))
    rw [Rat.add_assoc]
theorem comb_snoc : ∀ {ws : List Rat} {rs : List (List Rat)} {acc : List Rat} {w : Rat} {r : List Rat}, ws.length = rs.length → comb (ws ++ [w]) (rs ++ [r]) acc = addS (comb ws rs acc) w r
  | [], [], _, _, _, _ => rfl
  | a :: ws, b :: rs, acc, w, r, h => by
    show comb (ws ++ [w]) (rs ++ [r]) (addS acc a b) = addS (comb ws rs (addS acc a b)) w r
    exact comb_snoc (by simpa using h)
  | [], _ :: _, _, _, _, h => by simp at h
  | _ :: _, [], _, _, _, h => by simp at h
/-- one row times a matrix whose rows have n entries -/
def vm (n : Nat) (r : List Rat) (B : List (List Rat)) : List Rat := comb r B (List.replicate n 0)
theorem vm_as {n : Nat} {r : List Rat} {B : List (List Rat)} (h : ∀ b ∈ B, b.length = n) : vm n r B = (List.range n).map fun k => dot r (col B k) := by
  have h' : ∀ b ∈ B, b.length = (List.replicate n (0 : Rat)).length := fun b hb => by rw [h b hb, List.length_replicate]
  apply List.ext_getElem?
  intro k
  by_cases hk : k < n
  · have e : (List.replicate n (0 : Rat))[k]? = some 0 := by rw [List.getElem?_replicate, if_pos hk]
    have := comb_get (ws := r) h' e
    unfold vm
    rw [this, List.getElem?_map, List.getElem?_range hk, Rat.zero_add]
    rfl
  · have l1 : (vm n r B).length = n := by unfold vm; rw [comb_length h', List.length_replicate]
    rw [List.getElem?_eq_none (by omega), List.getElem?_eq_none (by simp; omega)]
theorem vm_length {n : Nat} {r : List Rat} {B : List (List Rat)} (h : ∀ b ∈ B, b.length = n) : (vm n r B).length = n := by
  rw [vm_as h]; simp
def mm (n : Nat) (A B : List (List Rat)) : List (List Rat) := A.map fun r => vm n r B
theorem dot_addS : ∀ {acc b c : List Rat} {w : Rat}, b.length = acc.length → dot (addS acc w b) c = dot acc c + w * dot b c
  | [], [], c, w, _ => by
    show dot [] c = dot [] c + w * dot [] c
    rw [dot_nil]; grind
  | x :: acc, y :: b, [], w, _ => by
    rw [dot_nil2, dot_nil2, dot_nil2]; grind
  | x :: acc, y :: b, z :: c, w, h => by
    have ih := dot_addS (acc := acc) (b := b) (c := c) (w := w) (by simpa using h)
    show (x + w * y) * z + dot (addS acc w b) c = x * z + dot acc c + w * (y * z + dot b c)
    rw [ih]; grind
  | [], _ :: _, _, _, h => by simp at h
  | _ :: _, [], _, _, h => by simp at h
theorem dot_comb : ∀ {ws : List Rat} {rs : List (List Rat)} {acc c : List Rat}, (∀ r ∈ rs, r.length = acc.length) → dot (comb ws rs acc) c = dot acc c + dot ws (rs.map fun r => dot r c)
  | [], rs, acc, c, _ => by
    rw [dot_nil, Rat.add_zero]; simp [comb]
  | _ :: _, [], acc, c, _ => by
    show dot acc c = dot acc c + dot _ []
    rw [dot_nil2, Rat.add_zero]
  | w :: ws, r :: rs, acc, c, h => by
    have h0 := h r (List.mem_cons_self ..)
    have e := addS_length (w := w) h0
    have ih := dot_comb (ws := ws) (rs := rs) (acc := addS acc w r) (c := c) (fun q hq => by rw [e]; exact h q (List.mem_cons_of_mem _ hq))
    show dot (comb ws rs (addS acc w r)) c = dot acc c + (w * dot r c + dot ws (rs.map fun r => dot r c))
    rw [ih, dot_addS h0, Rat.add_assoc]
theorem dot_zeros : ∀ {n : Nat} {c : List Rat}, dot (List.replicate n 0) c = 0
  | 0, c => dot_nil c
  | n + 1, [] => dot_nil2 _
  | n + 1, z :: c => by
    rw [List.replicate_succ]
    show 0 * z + dot (List.replicate n 0) c = 0
    rw [dot_zeros, Rat.zero_mul, Rat.add_zero]
theorem dot_vm {n : Nat} {r c : List Rat} {B : List (List Rat)} (h : ∀ b ∈ B, b.length = n) : dot (vm n r B) c = dot r (B.map fun b => dot b c) := by
  unfold vm
  rw [dot_comb (fun b hb => by rw [h b hb, List.length_replicate]), dot_zeros, Rat.zero_add]
/-- of three matrices it is the same whichever two come first -/
theorem mm_assoc {n m : Nat} {A B C : List (List Rat)} (hB : ∀ b ∈ B, b.length = n) (hC : ∀ c ∈ C, c.length = m) : mm m (mm n A B) C = mm m A (mm m B C) := by
  unfold mm
  rw [List.map_map]
  refine List.map_congr_left fun r _ => ?_
  show vm m (vm n r B) C = vm m r (B.map fun b => vm m b C)
  have hM : ∀ x ∈ B.map (fun b => vm m b C), x.length = m := fun x hx => by
    obtain ⟨b', _, rfl⟩ := List.mem_map.mp hx
    exact vm_length hC
  rw [vm_as hM, vm_as (r := vm n r B) hC]
  refine List.map_congr_left fun k hk => ?_
  have hk' : k < m := List.mem_range.mp hk
  rw [dot_vm hB]
  congr 1
  unfold col
  rw [List.map_map]
  refine List.map_congr_left fun b _ => ?_
  show dot b (C.map fun r => r.getD k 0) = (vm m b C).getD k 0
  rw [vm_as hC, List.getD_eq_getElem?_getD, List.getElem?_map, List.getElem?_range hk']
  rfl
/-! ### bounds of what comes -/
theorem bd_dot {N M : Nat} : ∀ {i : Nat} {xs ys : List Rat}, (∀ x ∈ xs, ∀ y ∈ ys, Bd N M (x * y)) → xs.length ≤ i → Bd (N + i * (M + 2)) (i * M + 1) (dot xs ys)
  | i, [], ys, _, _ => by rw [dot_nil]; exact bd_zero (by omega)
  | i, _ :: _, [], _, _ => by rw [dot_nil2]; exact bd_zero (by omega)
  | 0, _ :: _, _ :: _, _, h => by simp at h
  | i + 1, x :: xs, y :: ys, h, hl => by
    have ih := bd_dot (i := i) (xs := xs) (ys := ys) (fun a ha b hb => h a (List.mem_cons_of_mem _ ha) b (List.mem_cons_of_mem _ hb)) (by simpa using hl)
    have h0 := h x (List.mem_cons_self ..) y (List.mem_cons_self ..)
    have e1 : (i + 1) * (M + 2) = i * M + 2 * i + M + 2 := by grind
    have e2 : (i + 1) * M = i * M + M := by grind
    have e3 : i * (M + 2) = i * M + 2 * i := by grind
    show Bd _ _ (x * y + dot xs ys)
    have q := Bd.add h0 ih (N := N + i * M + 2 * i + M + 1) (by omega) (by rw [e3]; omega)
    refine q.mono (by rw [e1]; omega) (by rw [e2]; omega)
theorem bd_vm {n : Nat} {ws : List Rat} {B : List (List Rat)} (h : ∀ b ∈ B, b.length = n) (hw : ∀ x ∈ ws, Bd 400 40 x) (hB : ∀ b ∈ B, ∀ y ∈ b, Bd 400 40 y) (hl : ws.length ≤ 48) : ∀ q ∈ vm n ws B, Bd 5000 4000 q := by
  intro q hq
  rw [vm_as h] at hq
  obtain ⟨k, hk, rfl⟩ := List.mem_map.mp hq
  have hk' := List.mem_range.mp hk
  refine (bd_dot (N := 800) (M := 80) (i := 48) (fun x hx y hy => ?_) hl).mono (by decide) (by decide)
  obtain ⟨b, hb, rfl⟩ := List.mem_map.mp hy
  have e : b.getD k 0 ∈ b := by
    have hkb : k < b.length := by rw [h b hb]; exact hk'
    rw [List.getD_eq_getElem?_getD, List.getElem?_eq_getElem hkb]
    exact List.getElem_mem hkb
  exact (Bd.mul (hw x hx) (hB b hb _ e)).mono (by decide) (by decide)
theorem vm_step {n i : Nat} {ws : List Rat} {B : List (List Rat)} {w : Rat} {r : List Rat} (hl : ws.length = B.length) (hw : ws[i]? = some w) (hr : B[i]? = some r) : vm n (ws.take (i + 1)) (B.take (i + 1)) = addS (vm n (ws.take i) (B.take i)) w r := by
  unfold vm
  rw [List.take_add_one, List.take_add_one, hw, hr]
  exact comb_snoc (by rw [List.length_take, List.length_take, hl])
end Mt

set_option Elab.async false
set_option linter.all false
set_option maxRecDepth 100000
/-! ratios, vectors and matrices as data -/
namespace Ly
open PySem PySem.Spec PyProof.Rows L2 Mt
def rD (q : Rat) : PyData := .tuple [.int q.num, .int (q.den : Int)]
def vD (r : List Rat) : PyData := .tuple (r.map rD)
def mD (A : List (List Rat)) : PyData := .tuple (A.map vD)
section
variable {K : PySem.W.Frag} {H H' : Hp} {v : V}
theorem ity {a : Addr} {xs : List V} (h : ITup K H a xs) : TyX K H (.ref a) (.type "tuple") := by
  rcases h with h | ⟨o, its, n, hk, hc, _⟩
  · exact .base (.tup h)
  · exact .kTuple hk hc
theorem rat_inv {q : Rat} (h : Im K H v (rD q)) : ∃ p, v = .ref p ∧ ITup K H p [.int q.num, .int (q.den : Int)] := by
  obtain ⟨a, xs, rfl, h1, h2⟩ := h.tuple_inv
  obtain ⟨x, r, rfl, h3, h4⟩ := h2.cons_inv
  obtain ⟨y, r', rfl, h5, h6⟩ := h4.cons_inv
  rw [h6.nil_inv, h3.int_inv, h5.int_inv] at h1
  exact ⟨a, rfl, h1⟩
theorem rat_mk {q : Rat} {p : Addr} (h : ITup K H p [.int q.num, .int (q.den : Int)]) : Im K H (.ref p) (rD q) := .tup h (.cons (.int _) (.cons (.int _) .nil))
theorem vec_inv {r : List Rat} (h : Im K H v (vD r)) : ∃ p xs, v = .ref p ∧ ITup K H p xs ∧ ImAll K H xs (r.map rD) := h.tuple_inv
theorem mat_inv {A : List (List Rat)} (h : Im K H v (mD A)) : ∃ p xs, v = .ref p ∧ ITup K H p xs ∧ ImAll K H xs (A.map vD) := h.tuple_inv
theorem all_get {α : Type} {f : α → PyData} {xs : List V} {l : List α} {i : Nat} {x : V} (h : ImAll K H xs (l.map f)) (e : xs[i]? = some x) : ∃ a, l[i]? = some a ∧ Im K H x (f a) := by
  obtain ⟨d, h1, h2⟩ := h.getV e
  rw [List.getElem?_map] at h1
  cases hl : l[i]? with
  | none => rw [hl] at h1; simp at h1
  | some a =>
    rw [hl] at h1
    have : f a = d := by simpa using h1
    subst this
    exact ⟨a, rfl, h2⟩
theorem all_at {α : Type} {f : α → PyData} {xs : List V} {l : List α} {i : Nat} {a : α} (h : ImAll K H xs (l.map f)) (e : l[i]? = some a) : ∃ x, xs[i]? = some x ∧ Im K H x (f a) := h.get (by rw [List.getElem?_map, e]; rfl)
theorem all_len {α : Type} {f : α → PyData} {xs : List V} {l : List α} (h : ImAll K H xs (l.map f)) : xs.length = l.length := by rw [h.length, List.length_map]
theorem all_rep {α : Type} {f : α → PyData} {x : V} {a : α} (h : Im K H x (f a)) : ∀ n : Nat, ImAll K H (List.replicate n x) ((List.replicate n a).map f)
  | 0 => .nil
  | n + 1 => by
    rw [List.replicate_succ, List.replicate_succ, List.map_cons]
    exact .cons h (all_rep h n)
theorem flat1 {x : V} : ∀ n : Nat, (List.replicate n [x]).flatten = List.replicate n x
  | 0 => rfl
  | n + 1 => by
    rw [List.replicate_succ, List.flatten_cons, flat1 n]; rfl
/-- the parts so far, one more -/
theorem all_snoc {α : Type} {f : α → PyData} {xs : List V} {l : List α} {i : Nat} {a : α} {x : V} (h : ImAll K H xs ((l.take i).map f)) (e : l[i]? = some a) (r : Im K H x (f a)) : ImAll K H (xs ++ [x]) ((l.take (i + 1)).map f) := by
  rw [List.take_add_one, e, List.map_append]
  exact h.snoc r
end
end Ly

set_option Elab.async false
set_option linter.all false
set_option maxRecDepth 100000
namespace K41
open PySem PySem.Spec PyProof.Rows L2 Ly Mt
def topS (i : Nat) : Stmt := PySem.Challenge.pw_sameontrees_k41_whole_products.main.body.getD i (.Pass ⟨0, 0, 0, 0⟩)
/-- what the module's names hold -/
structure Tx (K : PySem.W.Frag) (mg : Str → Option Value) : Prop where
  m_isinstance : mg "isinstance" = none
  m_len : mg "len" = none
  m_int : mg "int" = none
  m_bool : mg "bool" = none
  m_tuple : mg "tuple" = none
  m_str : mg "str" = none
  m_list : mg "list" = none
  m_abs : mg "abs" = none
  m_all : mg "all" = none
  m_zip : mg "zip" = none
  m_range : mg "range" = none
  g_gcd : mg "gcd" = some (.builtin "math.gcd")
  g_MOST_ENTRIES : ∃ u, mg "MOST_ENTRIES" = some u ∧ L2.RelV (.int 48) u
  zero : ∃ a, mg "ZERO" = some (.ref a) ∧ ∀ H, ITup K H a [.int 0, .int 1]
section
variable {P : Program} {w : World} {K : PySem.W.Frag} {mg : Str → Option Value} {base : Heap}

abbrev s_is_int : Stmt := topS 6
theorem sc_is_int : FnScope ["thing"] ["thing"] (defScope s_is_int) := ⟨rfl, rfl, rfl, by decide +kernel, rfl, by decide +kernel, by decide +kernel⟩
def sp_is_int : Sp := fun vs H Q _ => ∃ i, vs = [.int i] ∧ Q (.bl true) H
theorem ok_is_int {f : Addr} {fd : FuncData} {k : Nat} (F : Fun K "is_int" "is_int" s_is_int f fd) (T : Tx K mg) : FnOk P w K mg base CX0 (k + 1) f fd ["thing"] sp_is_int := by
  have nd := sc_is_int.nd
  refine F.ok sc_is_int (fun vs H Q E h => ?_) (fun cdv A outer s H vs Q E hr h => ?_)
  · obtain ⟨i, rfl, _⟩ := h
    rfl
  · obtain ⟨i, rfl, q⟩ := h
    refine ⟨_, (pss_one (ps_ret (pe_and (pe_callB (kcall_isi K) (by rfl) T.m_isinstance (by decide +kernel) (pa_cons (pv 0) (pa_cons (pe_bltn (v := .ty "int") (u := .type "int") (by rfl) T.m_int (by decide +kernel) rfl) pa_nil))) (pe_one (pe_not (pe_callB (kcall_isi K) (by rfl) T.m_isinstance (by decide +kernel) (pa_cons (pv 0) (pa_cons (pe_bltn (v := .ty "bool") (u := .type "bool") (by rfl) T.m_bool (by decide +kernel) rfl) pa_nil)))))))), ?_⟩
    refine ⟨.int i, rfl, .int i, _, .type "int", _, true, rfl, .ty _, .base (.int i), kit_ty (by decide +kernel), true, rfl, ?_⟩
    exact iteT ⟨.int i, rfl, .int i, _, .type "int", _, false, rfl, .ty _, .base (.int i), kit_ty (by decide +kernel), false, rfl, q⟩

abbrev s_is_pair : Stmt := topS 7
theorem sc_is_pair : FnScope ["thing"] ["thing"] (defScope s_is_pair) := ⟨rfl, rfl, rfl, by decide +kernel, rfl, by decide +kernel, by decide +kernel⟩
def sp_is_pair (K : PySem.W.Frag) : Sp := fun vs H Q _ => ∃ a xs, vs = [.ref a] ∧ ITup K H a xs ∧ xs.length = 2 ∧ Q (.bl true) H
theorem ok_is_pair {f : Addr} {fd : FuncData} {k : Nat} (F : Fun K "is_pair" "is_pair" s_is_pair f fd) (T : Tx K mg) : FnOk P w K mg base CX0 (k + 1) f fd ["thing"] (sp_is_pair K) := by
  have nd := sc_is_pair.nd
  refine F.ok sc_is_pair (fun vs H Q E h => ?_) (fun cdv A outer s H vs Q E hr h => ?_)
  · obtain ⟨i, xs, rfl, _⟩ := h
    rfl
  · obtain ⟨a, xs, rfl, ha, hl, q⟩ := h
    refine ⟨_, (pss_one (ps_ret (pe_and (pe_callB (kcall_isi K) (by rfl) T.m_isinstance (by decide +kernel) (pa_cons (pv 0) (pa_cons (pe_bltn (v := .ty "tuple") (u := .type "tuple") (by rfl) T.m_tuple (by decide +kernel) rfl) pa_nil))) (pe_one (pe_cmpR op_eq (pe_callB (kcall_len K) (by rfl) T.m_len PySem.boot_len (pa_cons (pv 0) pa_nil)) pe_int (nomark _)))))), ?_⟩
    refine ⟨.ref a, rfl, .ref a, _, .type "tuple", _, true, rfl, .ty _, ity ha, kit_ty (by decide +kernel), true, rfl, ?_⟩
    refine iteT ⟨.ref a, rfl, a, xs, rfl, .inr ha.sq, rfl, ?_⟩
    rw [hl]
    exact q

abbrev s_is_ratio : Stmt := topS 10
theorem sc_is_ratio : FnScope ["thing"] ["thing"] (defScope s_is_ratio) := ⟨rfl, rfl, rfl, by decide +kernel, rfl, by decide +kernel, by decide +kernel⟩
def sp_is_ratio (K : PySem.W.Frag) : Sp := fun vs H Q _ => ∃ v q, vs = [v] ∧ Im K H v (rD q) ∧ Q (.bl true) H
theorem ok_is_ratio {f : Addr} {fd : FuncData} {k : Nat} (F : Fun K "is_ratio" "is_ratio" s_is_ratio f fd) (T : Tx K mg){ki : Nat} (D_is_pair : Def P w K mg base ki "is_pair" s_is_pair ["thing"] (sp_is_pair K)) (D_is_int : Def P w K mg base ki "is_int" s_is_int ["thing"] sp_is_int) (hk : ki ≤ k) : FnOk P w K mg base CX0 (k + 1) f fd ["thing"] (sp_is_ratio K) := by
  have nd := sc_is_ratio.nd
  refine F.ok sc_is_ratio (fun vs H Q E h => ?_) (fun cdv A outer s H vs Q E hr h => ?_)
  · obtain ⟨i, xs, rfl, _⟩ := h
    rfl
  · obtain ⟨v, q, rfl, hv, z⟩ := h
    obtain ⟨a, rfl, ha⟩ := rat_inv hv
    refine ⟨_, (pss_cons (ps_if (PW.pt (pw_or (pt_not (pt_val (pe_def D_is_pair (hr.mono (by omega)) rfl (pa_cons (pv 0) pa_nil)))) (pw_or (pt_not (pt_val (pe_def D_is_int (hr.mono (by omega)) rfl (pa_cons (pe_ix (kix_tup K) (pv 0) pe_int (fun _ _ => rfl)) pa_nil)))) (pw_or (pt_not (pt_val (pe_def D_is_int (hr.mono (by omega)) rfl (pa_cons (pe_ix (kix_tup K) (pv 0) pe_int (fun _ _ => rfl)) pa_nil)))) (pw_or1 (pt_cmpR op_lt (pe_ix (kix_tup K) (pv 0) pe_int (fun _ _ => rfl)) pe_int (nomark _)))))))
        (pss_one (ps_ret pe_bl))
        pss_nil)
      (pss_one (ps_ret (pe_cmpR op_eq (pe_callBfun cr_gcd (by rfl) T.g_gcd (pa_cons (pe_ix (kix_tup K) (pv 0) pe_int (fun _ _ => rfl)) (pa_cons (pe_ix (kix_tup K) (pv 0) pe_int (fun _ _ => rfl)) pa_nil))) pe_int (nomark _))))), ?_⟩
    refine ⟨.ref a, rfl, a, _, rfl, ha, rfl, true, rfl, iteF ?_⟩
    refine ⟨.ref a, rfl, a, _, 0, _, rfl, rfl, ha.sq, atI_nat (j := 0) rfl, _, rfl, true, rfl, iteF ?_⟩
    refine ⟨.ref a, rfl, a, _, 1, _, rfl, rfl, ha.sq, atI_nat (j := 1) rfl, _, rfl, true, rfl, iteF ?_⟩
    refine ⟨.ref a, rfl, a, _, 1, _, rfl, rfl, ha.sq, atI_nat (j := 1) rfl, _, _, rfl, rfl, _, rfl, ?_⟩
    have hp := den_pos q
    rw [decide_eq_false (show ¬ (q.den : Int) < 1 by omega)]
    refine iteF ?_
    refine ⟨.ref a, rfl, a, _, 0, _, rfl, rfl, ha.sq, atI_nat (j := 0) rfl, .ref a, rfl, a, _, 1, _, rfl, rfl, ha.sq, atI_nat (j := 1) rfl, _, _, rfl, rfl, ?_⟩
    rw [cop q]
    exact z

abbrev s_made : Stmt := topS 11
theorem sc_made : FnScope ["top", "bottom", "common"] ["top", "bottom"] (defScope s_made) := ⟨rfl, rfl, rfl, by decide +kernel, rfl, by decide +kernel, by decide +kernel⟩
def sp_made : Sp := fun vs H Q _ => ∃ t b, vs = [.int t, .int b] ∧ 0 < b ∧ b.natAbs < 2 ^ 9000 ∧ ∀ p, H p = none → Q (.ref p) (upd H p (.tup [.int (Rat.divInt t b).num, .int ((Rat.divInt t b).den : Int)]))
theorem ok_made {f : Addr} {fd : FuncData} {k : Nat} (F : Fun K "made" "made" s_made f fd) (T : Tx K mg) : FnOk P w K mg base CX0 (k + 1) f fd ["top", "bottom"] sp_made := by
  have nd := sc_made.nd
  refine F.ok sc_made (fun vs H Q E h => ?_) (fun cdv A outer s H vs Q E hr h => ?_)
  · obtain ⟨i, xs, rfl, _⟩ := h
    rfl
  · obtain ⟨t, b, rfl, hb, hs, q⟩ := h
    refine ⟨_, (pss_cons (ps_if (pt_cmpR op_lt (pv 1) pe_int (nomark _))
        (pss_one (ps_par (i := 0) (j := 1) (by rfl) nd rfl rfl (by decide) rfl rfl (pa_cons (pe_un un_neg (pv 0)) (pa_cons (pe_un un_neg (pv 1)) pa_nil)) (by rfl)))
        pss_nil)
      (pss_cons (ps_set (i := 2) nd rfl (.inl rfl) (pe_callBfun cr_gcd (by rfl) T.g_gcd (pa_cons (pv 0) (pa_cons (pv 1) pa_nil))))
      (pss_one (ps_ret (pe_tup (pa_cons (pe_op op_fdivW (pv 0) (pv 2)) (pa_cons (pe_op op_fdivW (pv 1) (pv 2)) pa_nil))))))), ?_⟩
    refine ⟨.int b, rfl, _, _, rfl, rfl, _, rfl, ?_⟩
    rw [decide_eq_false (show ¬ b < 0 by omega)]
    refine iteF ⟨.int t, rfl, .int b, rfl, t, b, rfl, ?_⟩
    have c := wide_div (i := t) (gcd_pos (t := t) hb) (Nat.lt_of_le_of_lt (gcd_le hb) hs) (by decide) (Nat.le_refl _)
    have c' := wide_div (i := b) (gcd_pos (t := t) hb) (Nat.lt_of_le_of_lt (gcd_le hb) hs) (by decide) (Nat.le_refl _)
    refine ⟨.int t, rfl, .int _, rfl, _, _, rfl, rfl, c, .int b, rfl, .int _, rfl, _, _, rfl, rfl, c', by show 2 ≤ sizeLine; decide, fun p hp => ?_⟩
    have z := q p hp
    rw [← made_num hb, ← made_den hb] at z
    exact z

/-- one + other -/
abbrev s_plus : Stmt := topS 12
theorem sc_plus : FnScope ["one", "other"] ["one", "other"] (defScope s_plus) := ⟨rfl, rfl, rfl, by decide +kernel, rfl, by decide +kernel, by decide +kernel⟩
def sp_plus (K : PySem.W.Frag) : Sp := fun vs H Q _ => ∃ v u x y, vs = [v, u] ∧ Im K H v (rD x) ∧ Im K H u (rD y) ∧ Bd 400000 4400 x ∧ Bd 400000 4400 y ∧ ∀ p H', Same H H' → H p = none → Im K H' (.ref p) (rD (x + y)) → Q (.ref p) H'
theorem ok_plus {f : Addr} {fd : FuncData} {k : Nat} (F : Fun K "plus" "plus" s_plus f fd) (T : Tx K mg){ki : Nat} (D_made : Def P w K mg base ki "made" s_made ["top", "bottom"] sp_made) (hk : ki ≤ k) : FnOk P w K mg base CX0 (k + 1) f fd ["one", "other"] (sp_plus K) := by
  have nd := sc_plus.nd
  refine F.ok sc_plus (fun vs H Q E h => ?_) (fun cdv A outer s H vs Q E hr h => ?_)
  · obtain ⟨i, xs, _, _, rfl, _⟩ := h
    rfl
  · obtain ⟨v, u, x, y, rfl, hv, hu, bx, bw, q⟩ := h
    obtain ⟨a, rfl, ha⟩ := rat_inv hv
    obtain ⟨b, rfl, hb⟩ := rat_inv hu
    refine ⟨_, (pss_one (ps_ret (pe_def D_made (hr.mono (by omega)) rfl (pa_cons (pe_op op_add (pe_op op_mulW (pe_ix (kix_tup K) (pv 0) pe_int (fun _ _ => rfl)) (pe_ix (kix_tup K) (pv 1) pe_int (fun _ _ => rfl))) (pe_op op_mulW (pe_ix (kix_tup K) (pv 1) pe_int (fun _ _ => rfl)) (pe_ix (kix_tup K) (pv 0) pe_int (fun _ _ => rfl)))) (pa_cons (pe_op op_mulW (pe_ix (kix_tup K) (pv 0) pe_int (fun _ _ => rfl)) (pe_ix (kix_tup K) (pv 1) pe_int (fun _ _ => rfl))) pa_nil))))), ?_⟩
    refine ⟨.ref a, rfl, a, _, 0, _, rfl, rfl, ha.sq, atI_nat (j := 0) rfl, .ref b, rfl, b, _, 1, _, rfl, rfl, hb.sq, atI_nat (j := 1) rfl, _, _, rfl, rfl, wide_mul bx.1 bw.2 (by decide) (by decide) (by decide), ?_⟩
    refine ⟨.ref b, rfl, b, _, 0, _, rfl, rfl, hb.sq, atI_nat (j := 0) rfl, .ref a, rfl, a, _, 1, _, rfl, rfl, ha.sq, atI_nat (j := 1) rfl, _, _, rfl, rfl, wide_mul bw.1 bx.2 (by decide) (by decide) (by decide), ?_⟩
    refine ⟨_, _, rfl, rfl, ?_⟩
    refine ⟨.ref a, rfl, a, _, 1, _, rfl, rfl, ha.sq, atI_nat (j := 1) rfl, .ref b, rfl, b, _, 1, _, rfl, rfl, hb.sq, atI_nat (j := 1) rfl, _, _, rfl, rfl, wide_mul bx.2 bw.2 (by decide) (by decide) (by decide), ?_⟩
    refine ⟨_, _, rfl, Int.mul_pos (den_pos x) (den_pos y), lt_up (lt_mul bx.2 bw.2) (by decide), fun p hp => ?_⟩
    rw [add_as]
    exact q p _ (same_new hp) hp (rat_mk (.inl upd_same))

/-- one * other -/
abbrev s_times : Stmt := topS 13
theorem sc_times : FnScope ["one", "other"] ["one", "other"] (defScope s_times) := ⟨rfl, rfl, rfl, by decide +kernel, rfl, by decide +kernel, by decide +kernel⟩
def sp_times (K : PySem.W.Frag) : Sp := fun vs H Q _ => ∃ v u x y, vs = [v, u] ∧ Im K H v (rD x) ∧ Im K H u (rD y) ∧ Bd 400000 4400 x ∧ Bd 400000 4400 y ∧ ∀ p H', Same H H' → H p = none → Im K H' (.ref p) (rD (x * y)) → Q (.ref p) H'
theorem ok_times {f : Addr} {fd : FuncData} {k : Nat} (F : Fun K "times" "times" s_times f fd) (T : Tx K mg){ki : Nat} (D_made : Def P w K mg base ki "made" s_made ["top", "bottom"] sp_made) (hk : ki ≤ k) : FnOk P w K mg base CX0 (k + 1) f fd ["one", "other"] (sp_times K) := by
  have nd := sc_times.nd
  refine F.ok sc_times (fun vs H Q E h => ?_) (fun cdv A outer s H vs Q E hr h => ?_)
  · obtain ⟨i, xs, _, _, rfl, _⟩ := h
    rfl
  · obtain ⟨v, u, x, y, rfl, hv, hu, bx, bw, q⟩ := h
    obtain ⟨a, rfl, ha⟩ := rat_inv hv
    obtain ⟨b, rfl, hb⟩ := rat_inv hu
    refine ⟨_, (pss_one (ps_ret (pe_def D_made (hr.mono (by omega)) rfl (pa_cons (pe_op op_mulW (pe_ix (kix_tup K) (pv 0) pe_int (fun _ _ => rfl)) (pe_ix (kix_tup K) (pv 1) pe_int (fun _ _ => rfl))) (pa_cons (pe_op op_mulW (pe_ix (kix_tup K) (pv 0) pe_int (fun _ _ => rfl)) (pe_ix (kix_tup K) (pv 1) pe_int (fun _ _ => rfl))) pa_nil))))), ?_⟩
    refine ⟨.ref a, rfl, a, _, 0, _, rfl, rfl, ha.sq, atI_nat (j := 0) rfl, .ref b, rfl, b, _, 0, _, rfl, rfl, hb.sq, atI_nat (j := 0) rfl, _, _, rfl, rfl, wide_mul bx.1 bw.1 (by decide) (by decide) (by decide), ?_⟩
    refine ⟨.ref a, rfl, a, _, 1, _, rfl, rfl, ha.sq, atI_nat (j := 1) rfl, .ref b, rfl, b, _, 1, _, rfl, rfl, hb.sq, atI_nat (j := 1) rfl, _, _, rfl, rfl, wide_mul bx.2 bw.2 (by decide) (by decide) (by decide), ?_⟩
    refine ⟨_, _, rfl, Int.mul_pos (den_pos x) (den_pos y), lt_up (lt_mul bx.2 bw.2) (by decide), fun p hp => ?_⟩
    rw [mul_as]
    exact q p _ (same_new hp) hp (rat_mk (.inl upd_same))

abbrev s_is_vector : Stmt := topS 16
theorem sc_is_vector : FnScope ["thing", "entry"] ["thing"] (defScope s_is_vector) := ⟨rfl, rfl, rfl, by decide +kernel, rfl, by decide +kernel, by decide +kernel⟩
def sp_is_vector (K : PySem.W.Frag) : Sp := fun vs H Q _ => ∃ v r, vs = [v] ∧ Im K H v (vD r) ∧ r.length ≤ 48 ∧ ∀ H', Same H H' → Q (.bl true) H'
theorem ok_is_vector {f : Addr} {fd : FuncData} {k : Nat} (F : Fun K "is_vector" "is_vector" s_is_vector f fd) (T : Tx K mg){ki : Nat} (D_is_ratio : Def P w K mg base ki "is_ratio" s_is_ratio ["thing"] (sp_is_ratio K)) (hk : ki ≤ k) : FnOk P w K mg base CX0 (k + 1) f fd ["thing"] (sp_is_vector K) := by
  have nd := sc_is_vector.nd
  refine F.ok sc_is_vector (fun vs H Q E h => ?_) (fun cdv A outer s H vs Q E hr h => ?_)
  · obtain ⟨i, xs, rfl, _⟩ := h
    rfl
  · obtain ⟨v, r, rfl, hv, hl, q⟩ := h
    obtain ⟨a, xs, rfl, ha, hxs⟩ := vec_inv hv
    have lx : xs.length = r.length := all_len hxs
    refine ⟨_, (pss_one (ps_ret (pe_and (pe_callB (kcall_isi K) (by rfl) T.m_isinstance (by decide +kernel) (pa_cons (pv 0) (pa_cons (pe_bltn (v := .ty "tuple") (u := .type "tuple") (by rfl) T.m_tuple (by decide +kernel) rfl) pa_nil))) (pe_and (pe_cmpR op_le (pe_callB (kcall_len K) (by rfl) T.m_len PySem.boot_len (pa_cons (pv 0) pa_nil)) (pe_gv rfl T.g_MOST_ENTRIES) (nomark _)) (pe_one (pe_callB (kcr_all K) (by rfl) T.m_all (by decide +kernel) (pa_cons (pe_lc (own := [("entry", 1)]) (g := gName 1) (tt := tYes) rfl nd (kpi_tup K (pv 0)) (blkOk_by (by rfl)) (fun _ _ _ _ _ => (pg_name (i := 1) nd rfl (.inl rfl))) (fun _ _ _ _ _ => pts_nil) (fun _ _ _ _ _ => (pe_def D_is_ratio (hr.mono (by omega)) rfl (pa_cons (pv 1) pa_nil)))) pa_nil))))))), ?_⟩
    refine ⟨.ref a, rfl, .ref a, _, .type "tuple", _, true, rfl, .ty _, ity ha, kit_ty (by decide +kernel), true, rfl, ?_⟩
    refine iteT ⟨.ref a, rfl, a, xs, rfl, .inr ha.sq, _, _, rfl, rfl, _, rfl, ?_⟩
    rw [decide_eq_true (show (xs.length : Int) ≤ 48 by omega)]
    refine iteT ⟨.ref a, rfl, a, rfl, ⟨xs, ha.sq⟩, fun D hD => ?_⟩
    refine lc_all (walk_tup (xs := xs)) (fun i H2 => Same H H2 ∧ H2 D = some (.lst ((List.replicate i true).map V.bl))) ⟨same_new hD, upd_same⟩ (fun i H2 _ z => (ha.mono (tk_same z.1)).sq) (fun i x H2 H3 hi z y => ?_) (fun H2 z => ?_)
    · obtain ⟨sm, eD⟩ := z
      obtain ⟨rfl, hx⟩ := y
      obtain ⟨qq, _, iq⟩ := all_get hxs hx
      refine ⟨rfl, x, rfl, x, qq, rfl, Im.mono (tk_same sm) _ iq, _, eD, ?_, fun b o e => ?_, ?_⟩
      · rw [List.length_map, List.length_replicate]; exact small1000 (by omega)
      · rw [upd_ne (ne_of_none e hD)]
        exact sm _ _ e
      · rw [upd_same, List.replicate_succ', List.map_append]; rfl
    · refine ⟨D, List.replicate xs.length true, rfl, .of z.2, ?_⟩
      have e : (List.replicate xs.length true).all id = true := by simp
      rw [e]
      exact q _ z.1

abbrev s_is_matrix : Stmt := topS 17
theorem sc_is_matrix : FnScope ["thing", "row"] ["thing"] (defScope s_is_matrix) := ⟨rfl, rfl, rfl, by decide +kernel, rfl, by decide +kernel, by decide +kernel⟩
def sp_is_matrix (K : PySem.W.Frag) : Sp := fun vs H Q _ => ∃ v A n, vs = [v] ∧ Im K H v (mD A) ∧ A.length ≤ 48 ∧ (∀ r ∈ A, r.length = n) ∧ n ≤ 48 ∧ ∀ H', Same H H' → Q (.bl true) H'
theorem ok_is_matrix {f : Addr} {fd : FuncData} {k : Nat} (F : Fun K "is_matrix" "is_matrix" s_is_matrix f fd) (T : Tx K mg){ki : Nat} (D_is_vector : Def P w K mg base ki "is_vector" s_is_vector ["thing"] (sp_is_vector K)) (hk : ki ≤ k) : FnOk P w K mg base CX0 (k + 1) f fd ["thing"] (sp_is_matrix K) := by
  have nd := sc_is_matrix.nd
  refine F.ok sc_is_matrix (fun vs H Q E h => ?_) (fun cdv A outer s H vs Q E hr h => ?_)
  · obtain ⟨i, xs, _, rfl, _⟩ := h
    rfl
  · obtain ⟨v, M, n, rfl, hv, hl, hn, h48, q⟩ := h
    obtain ⟨a, xs, rfl, ha, hxs⟩ := mat_inv hv
    have lx : xs.length = M.length := all_len hxs
    refine ⟨_, (pss_cons (ps_if (PW.pt (pw_or (pt_not (pt_val (pe_callB (kcall_isi K) (by rfl) T.m_isinstance (by decide +kernel) (pa_cons (pv 0) (pa_cons (pe_bltn (v := .ty "tuple") (u := .type "tuple") (by rfl) T.m_tuple (by decide +kernel) rfl) pa_nil))))) (pw_or1 (pt_cmpR op_gt (pe_callB (kcall_len K) (by rfl) T.m_len PySem.boot_len (pa_cons (pv 0) pa_nil)) (pe_gv rfl T.g_MOST_ENTRIES) (nomark _)))))
        (pss_one (ps_ret pe_bl))
        pss_nil)
      (pss_cons (ps_if (pt_not (pt_val (pe_callB (kcr_all K) (by rfl) T.m_all (by decide +kernel) (pa_cons (pe_lc (own := [("row", 1)]) (g := gName 1) (tt := tYes) rfl nd (kpi_tup K (pv 0)) (blkOk_by (by rfl)) (fun _ _ _ _ _ => (pg_name (i := 1) nd rfl (.inl rfl))) (fun _ _ _ _ _ => pts_nil) (fun _ _ _ _ _ => (pe_def D_is_vector (hr.mono (by omega)) rfl (pa_cons (pv 1) pa_nil)))) pa_nil))))
        (pss_one (ps_ret pe_bl))
        pss_nil)
      (pss_one (ps_ret (pe_callB (kcr_all K) (by rfl) T.m_all (by decide +kernel) (pa_cons (pe_lc (own := [("row", 1)]) (g := gName 1) (tt := tYes) rfl nd (kpi_tup K (pv 0)) (blkOk_by (by rfl)) (fun _ _ _ _ _ => (pg_name (i := 1) nd rfl (.inl rfl))) (fun _ _ _ _ _ => pts_nil) (fun _ _ _ _ _ => (pe_cmpR op_eq (pe_callB (kcall_len K) (by rfl) T.m_len PySem.boot_len (pa_cons (pv 1) pa_nil)) (pe_callB (kcall_len K) (by rfl) T.m_len PySem.boot_len (pa_cons (pe_ix (kix_tup K) (pv 0) pe_int (fun _ _ => rfl)) pa_nil)) (nomark _)))) pa_nil)))))), ?_⟩
    refine ⟨.ref a, rfl, .ref a, _, .type "tuple", _, true, rfl, .ty _, ity ha, kit_ty (by decide +kernel), true, rfl, iteF ?_⟩
    refine ⟨.ref a, rfl, a, xs, rfl, .inr ha.sq, _, _, rfl, rfl, _, rfl, ?_⟩
    rw [decide_eq_false (show ¬ (xs.length : Int) > 48 by omega)]
    refine iteF ⟨.ref a, rfl, a, rfl, ⟨xs, ha.sq⟩, fun D hD => ?_⟩
    refine lc_all (walk_tup (xs := xs)) (fun i H2 => Same H H2 ∧ H2 D = some (.lst ((List.replicate i true).map V.bl))) ⟨same_new hD, upd_same⟩ (fun i H2 _ z => (ha.mono (tk_same z.1)).sq) (fun i x H2 H3 hi z y => ?_) (fun H2 z => ?_)
    · obtain ⟨sm, eD⟩ := z
      obtain ⟨rfl, hx⟩ := y
      obtain ⟨r, hr', iq⟩ := all_get hxs hx
      refine ⟨rfl, x, rfl, x, r, rfl, Im.mono (tk_same sm) _ iq, by rw [hn r (List.mem_of_getElem? hr')]; exact h48, fun H4 sm4 => ⟨_, sm4 _ _ eD, ?_, fun b o e => ?_, ?_⟩⟩
      · rw [List.length_map, List.length_replicate]; exact small1000 (by omega)
      · rw [upd_ne (ne_of_none e hD)]
        exact sm4 _ _ (sm _ _ e)
      · rw [upd_same, List.replicate_succ', List.map_append]; rfl
    · refine ⟨D, List.replicate xs.length true, rfl, .of z.2, ?_⟩
      have e : (List.replicate xs.length true).all id = true := by simp
      rw [e]
      have sm1 := z.1
      refine ⟨true, rfl, iteF ?_⟩
      refine ⟨.ref a, rfl, a, rfl, ⟨xs, (ha.mono (tk_same sm1)).sq⟩, fun D2 hD2 => ?_⟩
      refine lc_all (walk_tup (xs := xs)) (fun i H3 => Same H2 H3 ∧ H3 D2 = some (.lst ((List.replicate i true).map V.bl))) ⟨same_new hD2, upd_same⟩ (fun i H3 _ z => (ha.mono (tk_same (sm1.trans z.1))).sq) (fun i x H3 H4 hi z y => ?_) (fun H3 z => ?_)
      · obtain ⟨sm, eD⟩ := z
        obtain ⟨rfl, hx⟩ := y
        have sm2 := sm1.trans sm
        obtain ⟨r, hr', iq⟩ := all_get hxs hx
        obtain ⟨b, ys, rfl, hb, hys⟩ := vec_inv (Im.mono (tk_same sm2) _ iq)
        have ly : ys.length = n := by rw [all_len hys]; exact hn r (List.mem_of_getElem? hr')
        have h0 : 0 < xs.length := by omega
        obtain ⟨r0, hr0, iq0⟩ := all_get hxs (List.getElem?_eq_getElem h0)
        obtain ⟨b0, ys0, e0, hb0, hys0⟩ := vec_inv (Im.mono (tk_same sm2) _ iq0)
        have ly0 : ys0.length = n := by rw [all_len hys0]; exact hn r0 (List.mem_of_getElem? hr0)
        refine ⟨rfl, .ref b, rfl, b, ys, rfl, .inr hb.sq, .ref a, rfl, a, xs, 0, _, rfl, rfl, (ha.mono (tk_same sm2)).sq, atI_nat (j := 0) (List.getElem?_eq_getElem h0), b0, ys0, by rw [e0], .inr hb0.sq, rfl, _, eD, ?_, fun c o e => ?_, ?_⟩
        · rw [List.length_map, List.length_replicate]; exact small1000 (by omega)
        · rw [upd_ne (ne_of_none e hD2)]
          exact sm _ _ e
        · rw [upd_same, List.replicate_succ', List.map_append, ly, ly0, decide_eq_true rfl]; rfl
      · refine ⟨D2, List.replicate xs.length true, rfl, .of z.2, ?_⟩
        rw [e]
        exact q _ (sm1.trans z.1)

abbrev s_need_matrix : Stmt := topS 18
theorem sc_need_matrix : FnScope ["thing"] ["thing"] (defScope s_need_matrix) := ⟨rfl, rfl, rfl, by decide +kernel, rfl, by decide +kernel, by decide +kernel⟩
def sp_need_matrix (K : PySem.W.Frag) : Sp := fun vs H Q _ => ∃ v A n, vs = [v] ∧ Im K H v (mD A) ∧ A.length ≤ 48 ∧ (∀ r ∈ A, r.length = n) ∧ n ≤ 48 ∧ ∀ H', Same H H' → Q .non H'
theorem ok_need_matrix {f : Addr} {fd : FuncData} {k : Nat} (F : Fun K "need_matrix" "need_matrix" s_need_matrix f fd) (T : Tx K mg){ki : Nat} (D_is_matrix : Def P w K mg base ki "is_matrix" s_is_matrix ["thing"] (sp_is_matrix K)) (hk : ki ≤ k) : FnOk P w K mg base CX0 (k + 1) f fd ["thing"] (sp_need_matrix K) := by
  have nd := sc_need_matrix.nd
  refine F.ok sc_need_matrix (fun vs H Q E h => ?_) (fun cdv A outer s H vs Q E hr h => ?_)
  · obtain ⟨i, xs, _, rfl, _⟩ := h
    rfl
  · obtain ⟨v, M, n, rfl, hv, hl, hn, h48, q⟩ := h
    refine ⟨_, (pss_one (ps_if (pt_not (pt_val (pe_def D_is_matrix (hr.mono (by omega)) rfl (pa_cons (pv 0) pa_nil))))
        (pss_one ps_never)
        pss_nil)), ?_⟩
    exact ⟨v, rfl, v, M, n, rfl, hv, hl, hn, h48, fun H' sm => ⟨true, rfl, iteF (q _ sm)⟩⟩
end
end K41

set_option Elab.async false
set_option linter.all false
set_option maxRecDepth 100000
namespace K41
open PySem PySem.Spec PyProof.Rows L2 Ly Mt
section
variable {P : Program} {w : World} {K : PySem.W.Frag} {mg : Str → Option Value} {base : Heap}

abbrev s_combined : Stmt := topS 19
theorem sc_combined : FnScope ["weights", "rows", "size", "total", "weight", "row", "one", "two"] ["weights", "rows", "size"] (defScope s_combined) := ⟨rfl, rfl, rfl, by decide +kernel, rfl, by decide +kernel, by decide +kernel⟩
def sp_combined (K : PySem.W.Frag) : Sp := fun vs H Q _ => ∃ v1 v2 ws B n, vs = [v1, v2, .int (n : Nat)] ∧ Im K H v1 (vD ws) ∧ Im K H v2 (mD B) ∧ ws.length = B.length ∧ (∀ r ∈ B, r.length = n) ∧ n ≤ 48 ∧ B.length ≤ 48 ∧
  (∀ x ∈ ws, Bd 400 40 x) ∧ (∀ r ∈ B, ∀ y ∈ r, Bd 400 40 y) ∧ ∀ p H', Same H H' → H p = none → Im K H' (.ref p) (vD (vm n ws B)) → Q (.ref p) H'
theorem ok_combined {f : Addr} {fd : FuncData} {k : Nat} (F : Fun K "combined" "combined" s_combined f fd) (T : Tx K mg){ki : Nat} (D_plus : Def P w K mg base ki "plus" s_plus ["one", "other"] (sp_plus K)) (D_times : Def P w K mg base ki "times" s_times ["one", "other"] (sp_times K)) (hk : ki ≤ k) : FnOk P w K mg base CX0 (k + 1) f fd ["weights", "rows", "size"] (sp_combined K) := by
  have nd := sc_combined.nd
  refine F.ok sc_combined (fun vs H Q E h => ?_) (fun cdv A outer s H vs Q E hr h => ?_)
  · obtain ⟨_, _, _, _, _, rfl, _⟩ := h
    rfl
  · obtain ⟨v1, v2, ws, B, n, rfl, hv1, hv2, hl, hn, h48, hB48, bw, bB, q⟩ := h
    obtain ⟨a, xs, rfl, ha, hxs⟩ := vec_inv hv1
    obtain ⟨b, ys, rfl, hb, hys⟩ := mat_inv hv2
    have lx : xs.length = ws.length := all_len hxs
    have ly : ys.length = B.length := all_len hys
    obtain ⟨z, gz, hz⟩ := T.zero
    have g_ZERO : ∃ u, mg "ZERO" = some u ∧ L2.RelV (.ref z) u := ⟨_, gz, rfl⟩
    refine ⟨_, (pss_cons (ps_set (i := 3) nd rfl (.inl rfl) (pe_op op_rep (pe_lst (pa_cons (pe_gv rfl g_ZERO) pa_nil)) (pv 2)))
      (pss_cons (ps_for PassesOwn.never rfl (kpi_zip K (by rfl) T.m_zip (pa_cons (pv 0) (pa_cons (pv 1) pa_nil))) (kpg_tup K (n := 2) rfl (pgs_cons (pg_name (i := 4) nd rfl (.inr rfl)) (pgs_cons (pg_name (i := 5) nd rfl (.inl rfl)) pgs_nil)))
        (pss_one (ps_if (pt_cmpR op_ne (pe_ix (kix_tup K) (pv 4) pe_int (fun _ _ => rfl)) pe_int (nomark _))
          (pss_one (ps_setLc (i := 3) (own := [("one", 6), ("two", 7)]) (g := _) (tt := tYes) rfl nd rfl rfl (sw_true rfl rfl rfl (by decide +kernel)) (kpi_zipM K (by rfl) T.m_zip (pa_cons (pv 3) (pa_cons (pv 5) pa_nil))) (blkOk_by (by rfl)) (fun _ _ _ _ _ => (kpg_tup K (n := 2) rfl (pgs_cons (pg_name (i := 6) nd rfl (.inl rfl)) (pgs_cons (pg_name (i := 7) nd rfl (.inl rfl)) pgs_nil)))) (fun _ _ _ _ _ => pts_nil) (fun _ _ _ _ _ => (pe_ifExp (pt_cmpR op_eq (pe_ix (kix_tup K) (pv 7) pe_int (fun _ _ => rfl)) pe_int (nomark _)) (pv 6) (pe_def D_plus (hr.mono (by omega)) rfl (pa_cons (pv 6) (pa_cons (pe_def D_times (hr.mono (by omega)) rfl (pa_cons (pv 4) (pa_cons (pv 7) pa_nil))) pa_nil)))))))
          pss_nil)))
      (pss_one (ps_ret (pe_callTy (kcall_tuple K) (by rfl) T.m_tuple (by decide +kernel) (pa_cons (pv 3) pa_nil)))))), ?_⟩
    refine ⟨by show 1 ≤ sizeLine; decide, fun l hl1 => ⟨.int n, rfl, l, n, _, rfl, rfl, upd_same, by omega, by omega, ?_, fun p hp => ?_⟩⟩
    · show 1 * ((n : Int)).toNat ≤ sizeLine
      have := small1000 (show n ≤ 1000 by omega)
      rw [Nat.one_mul]
      show n ≤ sizeLine
      omega
    have smp : Same H (upd (upd H l (.lst [.ref z])) p (.lst (List.replicate ((n : Int)).toNat [V.ref z]).flatten)) := (same_new hl1).trans (same_new hp)
    have np : H p = none := (same_new hl1).free hp
    refine ⟨.ref a, rfl, .ref b, rfl, a, b, xs, ys, rfl, .inr ⟨(ha.mono (tk_same smp)).sq, (hb.mono (tk_same smp)).sq, ?_⟩⟩
    refine for_it (walk_zipT (xs := xs) (ys := ys) (by omega)) (fun i σ H2 => ∃ p y4 y5 y6 y7 vs', σ = [some (.ref a), some (.ref b), some (.int n), some (.ref p), y4, y5, y6, y7] ∧ Same H H2 ∧ H p = none ∧ H2 p = some (.lst vs') ∧ ImAll K H2 vs' ((vm n (ws.take i) (B.take i)).map rD)) ?_ ?_ ?_ ?_
    · refine ⟨p, none, none, none, none, _, rfl, smp, np, upd_same, ?_⟩
      show ImAll K _ (List.replicate n [V.ref z]).flatten ((List.replicate n (0 : Rat)).map rD)
      rw [flat1 n]
      exact all_rep (f := rD) (a := 0) (rat_mk (q := 0) (hz _)) n
    · rintro i σ H2 hi ⟨p', y4, y5, y6, y7, vs', rfl, sm, _, _, _⟩
      exact ⟨(ha.mono (tk_same sm)).sq, (hb.mono (tk_same sm)).sq⟩
    · rintro i x σ H2 H3 hi ⟨p', y4, y5, y6, y7, vs', rfl, sm, np', ep, im⟩ ⟨T1, x1, x2, rfl, nT, rfl, g1, g2⟩
      obtain ⟨wi, hwi, iw⟩ := all_get hxs g1
      obtain ⟨ri, hri, ir⟩ := all_get hys g2
      have sm3 : Same H (upd H2 T1 (.tup [x1, x2])) := sm.trans (same_new nT)
      have lr : ri.length = n := hn ri (List.mem_of_getElem? hri)
      have lacc : (vm n (ws.take i) (B.take i)).length = n := vm_length fun b hb => hn b (List.mem_of_mem_take hb)
      have hstep := vm_step (n := n) hl hwi hri
      have bacc := bd_vm (n := n) (ws := ws.take i) (B := B.take i) (fun b hb => hn b (List.mem_of_mem_take hb)) (fun x hx => bw x (List.mem_of_mem_take hx)) (fun b hb => bB b (List.mem_of_mem_take hb)) (by rw [List.length_take]; omega)
      obtain ⟨aw, rfl, haw⟩ := rat_inv (Im.mono (tk_same sm3) _ iw)
      obtain ⟨ar, rs, rfl, har, hrs⟩ := vec_inv (Im.mono (tk_same sm3) _ ir)
      have lrs : rs.length = n := by rw [all_len hrs]; exact lr
      have lvs : vs'.length = n := by rw [all_len im]; exact lacc
      refine ⟨T1, _, rfl, .of upd_same, rfl, .ref aw, _, rfl, .ref ar, _, rfl, rfl, ?_⟩
      refine ⟨.ref aw, rfl, aw, _, 0, _, rfl, rfl, haw.sq, atI_nat (j := 0) rfl, rfl, _, rfl, ?_⟩
      have ep3 : (upd H2 T1 (.tup [.ref aw, .ref ar])) p' = some (.lst vs') := by rw [upd_ne (ne_of_none ep nT)]; exact ep
      have im3 : ImAll K (upd H2 T1 (.tup [.ref aw, .ref ar])) vs' ((vm n (ws.take i) (B.take i)).map rD) := ImAll.mono (tk_new nT) _ im
      generalize hG : upd H2 T1 (.tup [.ref aw, .ref ar]) = G at *
      by_cases h0 : wi.num = 0
      · have hw0 : wi = 0 := num_zero h0
        have e : (V.int wi.num) = V.int 0 := by rw [h0]
        rw [decide_eq_true e]
        refine iteF ⟨p', some (.ref aw), some (.ref ar), y6, y7, vs', rfl, sm3, np', ep3, ?_⟩
        rw [hstep, hw0, addS_zero (by rw [lr, lacc])]
        exact im3
      · have e : ¬ (V.int wi.num) = V.int 0 := fun z => h0 (V.int.inj z)
        rw [decide_eq_false e]
        refine iteT ⟨.ref p', rfl, .ref ar, rfl, p', ar, vs', rs, rfl, .of ep3, har.sq, fun D hD => ?_⟩
        refine lc_all (walk_zipM (xs := vs') (ys := rs) (by omega)) (fun j H4 => Same G H4 ∧ ∃ acc, H4 D = some (.lst acc) ∧ ImAll K H4 acc (((addS (vm n (ws.take i) (B.take i)) wi ri).take j).map rD)) ⟨same_new hD, [], upd_same, .nil⟩ (fun j H4 _ z => ⟨.of (z.1 _ _ ep3), (har.mono (tk_same z.1)).sq⟩) (fun j x H4 H5 hj z y => ?_) (fun H4 z => ?_)
        · obtain ⟨sm4, acc, eD, ia⟩ := z
          obtain ⟨T2, u1, u2, rfl, nT2, rfl, k1, k2⟩ := y
          obtain ⟨o, ho, io⟩ := all_get im3 k1
          obtain ⟨t, ht, it⟩ := all_get hrs k2
          have sm5 : Same G (upd H4 T2 (.tup [u1, u2])) := sm4.trans (same_new nT2)
          have io5 := Im.mono (tk_same sm5) _ io
          have it5 := Im.mono (tk_same sm5) _ it
          have iw5 : Im K (upd H4 T2 (.tup [u1, u2])) (.ref aw) (rD wi) := rat_mk (haw.mono (tk_same sm5))
          have eD5 : (upd H4 T2 (.tup [u1, u2])) D = some (.lst acc) := by rw [upd_ne (ne_of_none eD nT2)]; exact eD
          have ia5 := ImAll.mono (tk_new (o := .tup [u1, u2]) nT2) _ ia
          have hget : (addS (vm n (ws.take i) (B.take i)) wi ri)[j]? = some (o + wi * t) := addS_get ho ht
          have lacc' : acc.length = j := by
            rw [all_len ia, List.length_take, addS_length (by rw [lr, lacc]), lacc]; omega
          obtain ⟨a2, rfl, ha2⟩ := rat_inv it5
          refine ⟨T2, _, rfl, .of upd_same, rfl, u1, _, rfl, .ref a2, _, rfl, rfl, rfl, ?_⟩
          refine ⟨.ref a2, rfl, a2, _, 0, _, rfl, rfl, ha2.sq, atI_nat (j := 0) rfl, rfl, _, rfl, ?_⟩
          generalize hG5 : upd H4 T2 (.tup [u1, V.ref a2]) = G5 at *
          have fin : ∀ (v : V) (H6 : Hp), Same G5 H6 → Im K H6 v (rD (o + wi * t)) → ∃ acc, H6 D = some (.lst acc) ∧ acc.length < sizeLine ∧ Same G (upd H6 D (.lst (acc ++ [v]))) ∧ ∃ acc', (upd H6 D (.lst (acc ++ [v]))) D = some (.lst acc') ∧ ImAll K (upd H6 D (.lst (acc ++ [v]))) acc' (((addS (vm n (ws.take i) (B.take i)) wi ri).take (j + 1)).map rD) := by
            intro v H6 sm6 iv
            have eD6 := sm6 _ _ eD5
            refine ⟨acc, eD6, small1000 (by omega), fun c oo ec => ?_, acc ++ [v], upd_same, ?_⟩
            · rw [upd_ne (ne_of_none ec hD)]
              exact sm6 _ _ (sm5 _ _ ec)
            · exact all_snoc (ImAll.mono ((tk_same sm6).trans (tk_lst eD6)) _ ia5) hget (Im.mono (tk_lst eD6) _ iv)
          by_cases t0 : t.num = 0
          · rw [decide_eq_true (show V.int t.num = V.int 0 by rw [t0])]
            refine iteT ⟨u1, rfl, fin u1 G5 (Same.refl _) ?_⟩
            rw [num_zero t0, Rat.mul_zero, Rat.add_zero]
            exact io5
          · rw [decide_eq_false (show ¬ V.int t.num = V.int 0 from fun z => t0 (V.int.inj z))]
            have bt : Bd 400 40 t := bB ri (List.mem_of_getElem? hri) t (List.mem_of_getElem? ht)
            have bwi : Bd 400 40 wi := bw wi (List.mem_of_getElem? hwi)
            have bo : Bd 5000 4000 o := bacc o (List.mem_of_getElem? ho)
            refine iteF ⟨u1, rfl, .ref aw, rfl, .ref a2, rfl, _, _, wi, t, rfl, iw5, it5, bwi.mono (by decide) (by decide), bt.mono (by decide) (by decide), fun p2 H6 sm6 np2 i6 => ?_⟩
            refine ⟨u1, .ref p2, o, wi * t, rfl, Im.mono (tk_same sm6) _ io5, i6, bo.mono (by decide) (by decide), (Bd.mul bwi bt).mono (by decide) (by decide), fun p3 H7 sm7 np3 i7 => ?_⟩
            exact fin _ _ (sm6.trans sm7) i7
        · obtain ⟨sm4, acc, eD, ia⟩ := z
          refine ⟨D, some (.ref aw), some (.ref ar), y6, y7, acc, rfl, sm3.trans sm4, sm3.free hD, eD, ?_⟩
          rw [hstep]
          rw [List.take_of_length_le (by rw [addS_length (by rw [lr, lacc]), lacc]; omega)] at ia
          exact ia
    · rintro σ H2 ⟨p', y4, y5, y6, y7, vs', rfl, sm, np', ep, im⟩
      refine ⟨.ref p', rfl, p', vs', rfl, .inl ⟨.of ep, fun l hl2 => ?_⟩⟩
      have e1 : ws.take xs.length = ws := List.take_of_length_le (by omega)
      have e2 : B.take xs.length = B := List.take_of_length_le (by omega)
      rw [e1, e2] at im
      exact q l _ (sm.trans (same_new hl2)) (sm.free hl2) (.tup (.inl upd_same) (ImAll.mono (tk_new hl2) _ im))

abbrev s_multiplied : Stmt := topS 20
theorem sc_multiplied : FnScope ["one", "other", "size", "row"] ["one", "other", "size"] (defScope s_multiplied) := ⟨rfl, rfl, rfl, by decide +kernel, rfl, by decide +kernel, by decide +kernel⟩
/-- matrices that fit: A times B, whose rows have n entries -/
structure Fit (A B : List (List Rat)) (n : Nat) : Prop where
  rowsA : ∀ r ∈ A, r.length = B.length
  rowsB : ∀ r ∈ B, r.length = n
  lA : A.length ≤ 48
  lB : B.length ≤ 48
  ln : n ≤ 48
  bA : ∀ r ∈ A, ∀ y ∈ r, Bd 400 40 y
  bB : ∀ r ∈ B, ∀ y ∈ r, Bd 400 40 y
def sp_multiplied (K : PySem.W.Frag) : Sp := fun vs H Q _ => ∃ v1 v2 A B n, vs = [v1, v2, .int (n : Nat)] ∧ Im K H v1 (mD A) ∧ Im K H v2 (mD B) ∧ Fit A B n ∧ ∀ p H', Same H H' → H p = none → Im K H' (.ref p) (mD (mm n A B)) → Q (.ref p) H'
theorem ok_multiplied {f : Addr} {fd : FuncData} {k : Nat} (F : Fun K "multiplied" "multiplied" s_multiplied f fd) (T : Tx K mg){ki : Nat} (D_combined : Def P w K mg base ki "combined" s_combined ["weights", "rows", "size"] (sp_combined K)) (hk : ki ≤ k) : FnOk P w K mg base CX0 (k + 1) f fd ["one", "other", "size"] (sp_multiplied K) := by
  have nd := sc_multiplied.nd
  refine F.ok sc_multiplied (fun vs H Q E h => ?_) (fun cdv A outer s H vs Q E hr h => ?_)
  · obtain ⟨_, _, _, _, _, rfl, _⟩ := h
    rfl
  · obtain ⟨v1, v2, M, B, n, rfl, hv1, hv2, ft, q⟩ := h
    obtain ⟨a, xs, rfl, ha, hxs⟩ := mat_inv hv1
    have lx : xs.length = M.length := all_len hxs
    refine ⟨_, (pss_one (ps_ret (pe_callTy (kcall_tuple K) (by rfl) T.m_tuple (by decide +kernel) (pa_cons (pe_lc (own := [("row", 3)]) (g := gName 3) (tt := tYes) rfl nd (kpi_tup K (pv 0)) (blkOk_by (by rfl)) (fun _ _ _ _ _ => (pg_name (i := 3) nd rfl (.inl rfl))) (fun _ _ _ _ _ => pts_nil) (fun _ _ _ _ _ => (pe_def D_combined (hr.mono (by omega)) rfl (pa_cons (pv 3) (pa_cons (pv 1) (pa_cons (pv 2) pa_nil)))))) pa_nil)))), ?_⟩
    refine ⟨.ref a, rfl, a, rfl, ⟨xs, ha.sq⟩, fun D hD => ?_⟩
    refine lc_all (walk_tup (xs := xs)) (fun i H2 => Same H H2 ∧ ∃ acc, H2 D = some (.lst acc) ∧ ImAll K H2 acc (((mm n M B).take i).map vD)) ⟨same_new hD, [], upd_same, .nil⟩ (fun i H2 _ z => (ha.mono (tk_same z.1)).sq) (fun i x H2 H3 hi z y => ?_) (fun H2 z => ?_)
    · obtain ⟨sm, acc, eD, ia⟩ := z
      obtain ⟨rfl, hx⟩ := y
      obtain ⟨r, hr', iq⟩ := all_get hxs hx
      have mr := List.mem_of_getElem? hr'
      have hget : (mm n M B)[i]? = some (vm n r B) := by
        unfold mm; rw [List.getElem?_map, hr']; rfl
      refine ⟨rfl, x, rfl, v2, rfl, .int n, rfl, x, v2, r, B, n, rfl, Im.mono (tk_same sm) _ iq, Im.mono (tk_same sm) _ hv2, ft.rowsA r mr, ft.rowsB, ft.ln, ft.lB, ft.bA r mr, ft.bB, fun p H4 sm4 np ip => ?_⟩
      have lacc : acc.length = i := by
        rw [all_len ia, List.length_take]; unfold mm; rw [List.length_map]; omega
      have lM := ft.lA
      refine ⟨acc, sm4 _ _ eD, small1000 (by omega), fun b o e => ?_, acc ++ [.ref p], upd_same, ?_⟩
      · rw [upd_ne (ne_of_none e hD)]
        exact sm4 _ _ (sm _ _ e)
      · exact all_snoc (ImAll.mono ((tk_same sm4).trans (tk_lst (sm4 _ _ eD))) _ ia) hget (Im.mono (tk_lst (sm4 _ _ eD)) _ ip)
    · obtain ⟨sm, acc, eD, ia⟩ := z
      rw [List.take_of_length_le (by unfold mm; rw [List.length_map]; omega)] at ia
      exact ⟨D, acc, rfl, .inl ⟨.of eD, fun l hl2 => q l _ (sm.trans (same_new hl2)) (sm.free hl2) (.tup (.inl upd_same) (ImAll.mono (tk_new hl2) _ ia))⟩⟩

/-- how many entries the rows of a matrix have -/
def width (B : List (List Rat)) : Nat := match B with
  | [] => 0
  | r :: _ => r.length
abbrev s_times_matrix : Stmt := topS 21
theorem sc_times_matrix : FnScope ["one", "other"] ["one", "other"] (defScope s_times_matrix) := ⟨rfl, rfl, rfl, by decide +kernel, rfl, by decide +kernel, by decide +kernel⟩
def sp_times_matrix (K : PySem.W.Frag) : Sp := fun vs H Q _ => ∃ v1 v2 A B, vs = [v1, v2] ∧ Im K H v1 (mD A) ∧ Im K H v2 (mD B) ∧ Fit A B (width B) ∧ ∀ p H', Same H H' → H p = none → Im K H' (.ref p) (mD (mm (width B) A B)) → Q (.ref p) H'
theorem ok_times_matrix {f : Addr} {fd : FuncData} {k : Nat} (F : Fun K "times_matrix" "times_matrix" s_times_matrix f fd) (T : Tx K mg){ki : Nat} (D_need_matrix : Def P w K mg base ki "need_matrix" s_need_matrix ["thing"] (sp_need_matrix K)) (D_multiplied : Def P w K mg base ki "multiplied" s_multiplied ["one", "other", "size"] (sp_multiplied K)) (hk : ki ≤ k) : FnOk P w K mg base CX0 (k + 1) f fd ["one", "other"] (sp_times_matrix K) := by
  have nd := sc_times_matrix.nd
  refine F.ok sc_times_matrix (fun vs H Q E h => ?_) (fun cdv A outer s H vs Q E hr h => ?_)
  · obtain ⟨_, _, _, _, rfl, _⟩ := h
    rfl
  · obtain ⟨v1, v2, M, B, rfl, hv1, hv2, ft, q⟩ := h
    refine ⟨_, (pss_cons (ps_expr (pe_def D_need_matrix (hr.mono (by omega)) rfl (pa_cons (pv 0) pa_nil)))
      (pss_cons (ps_expr (pe_def D_need_matrix (hr.mono (by omega)) rfl (pa_cons (pv 1) pa_nil)))
      (pss_cons (ps_if (PW.pt (pw_and (pt_truth (pv 0) (by intro _; rfl)) (pw_and1 (pt_cmpR op_ne (pe_callB (kcall_len K) (by rfl) T.m_len PySem.boot_len (pa_cons (pe_ix (kix_tup K) (pv 0) pe_int (fun _ _ => rfl)) pa_nil)) (pe_callB (kcall_len K) (by rfl) T.m_len PySem.boot_len (pa_cons (pv 1) pa_nil)) (nomark _)))))
        (pss_one ps_never)
        pss_nil)
      (pss_one (ps_ret (pe_def D_multiplied (hr.mono (by omega)) rfl (pa_cons (pv 0) (pa_cons (pv 1) (pa_cons (pe_ifExp (pt_truth (pv 1) (by intro _; rfl)) (pe_callB (kcall_len K) (by rfl) T.m_len PySem.boot_len (pa_cons (pe_ix (kix_tup K) (pv 1) pe_int (fun _ _ => rfl)) pa_nil)) pe_int) pa_nil))))))))), ?_⟩
    have hB := ft.lB
    refine ⟨v1, rfl, v1, M, B.length, rfl, hv1, ft.lA, ft.rowsA, ft.lB, fun H1 sm1 => ?_⟩
    refine ⟨v2, rfl, v2, B, width B, rfl, Im.mono (tk_same sm1) _ hv2, ft.lB, ft.rowsB, ft.ln, fun H2 sm2 => ?_⟩
    have sm := sm1.trans sm2
    obtain ⟨a, xs, rfl, ha, hxs⟩ := mat_inv (Im.mono (tk_same sm) _ hv1)
    obtain ⟨b, ys, rfl, hb, hys⟩ := mat_inv (Im.mono (tk_same sm) _ hv2)
    have lx : xs.length = M.length := all_len hxs
    have ly : ys.length = B.length := all_len hys
    have last : ∀ (v : V) (H' : Hp), (∃ n, v = .int (n : Nat) ∧ n = width B) → H' = H2 → sp_multiplied K [.ref a, .ref b, v] H' Q E0 := by
      rintro v H' ⟨n, rfl, rfl⟩ rfl
      exact ⟨.ref a, .ref b, M, B, width B, rfl, Im.mono (tk_same sm) _ hv1, Im.mono (tk_same sm) _ hv2, ft, fun p H3 sm3 np ip => q p H3 (sm.trans sm3) (sm.free np) ip⟩
    have ret : (tRet (tCall (sp_multiplied K) [] E0 (tCons (tVar 0) (tCons (tVar 1) (tCons (tIf (fun σ H Q => tVar 1 σ H fun x H' => ∃ k, TruV K x H' k ∧ Q k H') (tCB (rLenK K) (tCons (tOp (rIxT K) (tVar 1) (tC (.int 0))) tNil)) (tC (.int 0))) tNil))))) { nx := fun _ H' => Q .non H', rt := Q } [some (.ref a), some (.ref b)] H2 := by
      refine ⟨.ref a, rfl, .ref b, rfl, .ref b, rfl, !ys.isEmpty, .inr (.inl ⟨ys, hb.sq, rfl⟩), ?_⟩
      cases hB' : B with
      | nil =>
        have e : ys = [] := by
          cases ys with
          | nil => rfl
          | cons _ _ => rw [hB'] at ly; simp at ly
        rw [e]
        exact iteF (last _ _ ⟨0, rfl, by rw [hB']; rfl⟩ rfl)
      | cons r rs =>
        have h0 : 0 < ys.length := by rw [ly, hB']; simp
        have e : (!ys.isEmpty) = true := by
          cases ys with
          | nil => simp at h0
          | cons _ _ => rfl
        rw [e]
        have hr0 : B[0]? = some r := by rw [hB']; rfl
        obtain ⟨y0, hy0, i0⟩ := all_at hys hr0
        obtain ⟨c, zs, rfl, hc, hzs⟩ := vec_inv i0
        refine iteT ⟨.ref b, rfl, b, ys, 0, _, rfl, rfl, hb.sq, atI_nat (j := 0) hy0, c, zs, rfl, .inr hc.sq, last _ _ ⟨zs.length, rfl, ?_⟩ rfl⟩
        rw [all_len hzs, hB']; rfl
    refine ⟨.ref a, rfl, !xs.isEmpty, .inr (.inl ⟨xs, ha.sq, rfl⟩), ?_⟩
    cases hM : M with
    | nil =>
      have e : xs = [] := by
        cases xs with
        | nil => rfl
        | cons _ _ => rw [hM] at lx; simp at lx
      rw [e]
      exact iteF (iteF ret)
    | cons r rs =>
      have h0 : 0 < xs.length := by rw [lx, hM]; simp
      have e : (!xs.isEmpty) = true := by
        cases xs with
        | nil => simp at h0
        | cons _ _ => rfl
      rw [e]
      have hr0 : M[0]? = some r := by rw [hM]; rfl
      obtain ⟨y0, hy0, i0⟩ := all_at hxs hr0
      obtain ⟨c, zs, rfl, hc, hzs⟩ := vec_inv i0
      refine iteT ⟨.ref a, rfl, a, xs, 0, _, rfl, rfl, ha.sq, atI_nat (j := 0) hy0, c, zs, rfl, .inr hc.sq, .ref b, rfl, b, ys, rfl, .inr hb.sq, rfl, _, rfl, ?_⟩
      have el : zs.length = ys.length := by rw [all_len hzs, ly]; exact ft.rowsA r (List.mem_of_getElem? hr0)
      rw [el]
      exact iteNS rfl ret
end
end K41

set_option Elab.async false
set_option linter.all false
set_option maxRecDepth 100000
set_option exponentiation.threshold 20000
namespace K41
open PySem PySem.Spec PyProof.Rows L2 Ly Mt
/-- a source of draws at c, its numbers at L; as many draws as n are let -/
def Cup (H : Hp) (c L : Addr) (n : Nat) : Prop := ∃ (a b k : Int) (ns : List Int), H c = some (.lst [.int a, .int b, .int k, .ref L]) ∧ H L = some (.lst (ns.map V.int)) ∧ 0 ≤ a ∧ 0 ≤ b ∧ b < 2 ^ 40 ∧ 0 ≤ k ∧ k + n ≤ 2 ^ 40 ∧ c ≠ L
/-- what a draw leaves as it was -/
def But (c L : Addr) (H H' : Hp) : Prop := ∀ b o, b ≠ c → b ≠ L → H b = some o → H' b = some o
theorem But.refl (c L : Addr) (H : Hp) : But c L H H := fun _ _ _ _ h => h
theorem But.trans {c L : Addr} {H H1 H2 : Hp} (a : But c L H H1) (b : But c L H1 H2) : But c L H H2 := fun x o h1 h2 h => b x o h1 h2 (a x o h1 h2 h)
theorem but_same {c L : Addr} {H H' : Hp} (s : Same H H') : But c L H H' := fun b o _ _ h => s b o h
theorem But.tk {c L : Addr} {H H' : Hp} {n : Nat} (s : But c L H H') (u : Cup H c L n) : TK H H' := fun b xs e => by
  obtain ⟨_, _, _, _, h1, h2, _⟩ := u
  refine s b _ (fun z => ?_) (fun z => ?_) e
  · subst z; rw [h1] at e; cases e
  · subst z; rw [h2] at e; cases e
theorem Cup.same {c L : Addr} {H H' : Hp} {n : Nat} (u : Cup H c L n) (s : Same H H') : Cup H' c L n := by
  obtain ⟨a, b, k, ns, h1, h2, r⟩ := u
  exact ⟨a, b, k, ns, s _ _ h1, s _ _ h2, r⟩
theorem Cup.less {c L : Addr} {H : Hp} {n m : Nat} (u : Cup H c L n) (h : m ≤ n) : Cup H c L m := by
  obtain ⟨a, b, k, ns, h1, h2, h3, h4, h5, h6, h7, h8⟩ := u
  exact ⟨a, b, k, ns, h1, h2, h3, h4, h5, h6, by omega, h8⟩
theorem fmod_in {x m : Int} (h : 0 < m) : 0 ≤ x.fmod m ∧ x.fmod m < m := by
  rw [Int.fmod_eq_emod_of_nonneg _ (by omega)]
  exact ⟨Int.emod_nonneg _ (by omega), Int.emod_lt_of_pos _ h⟩
theorem abs_lt {x : Int} {n : Nat} (h0 : 0 ≤ x) (h : x < 2 ^ n) : x.natAbs < 2 ^ n := by
  have e : ((x.natAbs : Nat) : Int) < ((2 ^ n : Nat) : Int) := by
    rw [Int.natCast_pow]; show ((x.natAbs : Nat) : Int) < (2 : Int) ^ n; omega
  exact Int.ofNat_lt.mp e
section
variable {P : Program} {w : World} {K : PySem.W.Frag} {mg : Str → Option Value} {base : Heap}

abbrev s__law_cup : Stmt := topS 23
theorem sc__law_cup : FnScope ["script", "blend", "cell"] ["script"] (defScope s__law_cup) := ⟨rfl, rfl, rfl, by decide +kernel, rfl, by decide +kernel, by decide +kernel⟩
def sp_cup (K : PySem.W.Frag) : Sp := fun vs H Q _ => ∃ (a : Addr) (ns : List Int), vs = [.ref a] ∧ SqL K H a (ns.map V.int) ∧ ns.length ≤ 63 ∧ ∀ c L H', Same H H' → H c = none → H L = none → Cup H' c L (2 ^ 39) → Q (.ref c) H'
theorem ok__law_cup {f : Addr} {fd : FuncData} {k : Nat} (F : Fun K "_law_cup" "_law_cup" s__law_cup f fd) (T : Tx K mg) : FnOk P w K mg base CX0 (k + 1) f fd ["script"] (sp_cup K) := by
  have nd := sc__law_cup.nd
  refine F.ok sc__law_cup (fun vs H Q E h => ?_) (fun cdv A outer s H vs Q E hr h => ?_)
  · obtain ⟨_, _, rfl, _⟩ := h
    rfl
  · obtain ⟨a, ns, rfl, hS, hl, q⟩ := h
    refine ⟨_, (pss_cons (ps_set (i := 1) nd rfl (.inl rfl) pe_int)
      (pss_cons (ps_for PassesOwn.never rfl (kpi_list K (pv 0)) (pg_name (i := 2) nd rfl (.inl rfl))
        (pss_one (ps_set (i := 1) nd rfl (.inl rfl) (pe_op op_add (pe_op op_modN (pe_callTy call_int1 (by rfl) T.m_int (by decide +kernel) (pa_cons (pe_op op_add (pe_op op_mulW (pv 1) pe_int) (pv 2)) pa_nil)) pe_int) pe_int))))
      (pss_one (ps_ret (pe_lst (pa_cons pe_int (pa_cons (pv 1) (pa_cons pe_int (pa_cons (pe_callTy (kcall_list K) (by rfl) T.m_list (by decide +kernel) (pa_cons (pv 0) pa_nil)) pa_nil))))))))), ?_⟩
    refine ⟨.ref a, rfl, a, rfl, ⟨_, hS⟩, ?_⟩
    refine for_it (walk_list (xs := ns.map V.int)) (fun i σ H2 => H2 = H ∧ ∃ b y2, σ = [some (.ref a), some (.int b), y2] ∧ 0 ≤ b ∧ b < 2 ^ 40) ⟨rfl, 1, none, rfl, by decide, by decide⟩ (fun i σ H2 _ z => by rw [z.1]; exact hS) ?_ ?_
    · rintro i x σ H2 H3 hi ⟨rfl, b, y2, rfl, b0, b1⟩ ⟨rfl, hx⟩
      obtain ⟨v, hv, rfl⟩ : ∃ v, ns[i]? = some v ∧ V.int v = x := by
        rw [List.getElem?_map] at hx
        cases h : ns[i]? with
        | none => rw [h] at hx; simp at hx
        | some v => rw [h] at hx; exact ⟨v, rfl, by simpa using hx⟩
      refine ⟨.int b, rfl, _, _, rfl, rfl, wide_mul (abs_lt b0 b1) (show (31 : Int).natAbs < 2 ^ 5 by decide) (by decide) (by decide) (by decide), .int v, rfl, _, _, rfl, rfl, .inl ⟨_, rfl, _, _, rfl, rfl, (by show (2147483629 : Int) ≠ 0; decide), _, _, rfl, rfl, rfl, ?_⟩⟩
      have h := fmod_in (x := b * 31 + v) (m := 2147483629) (by decide)
      exact ⟨_, _, rfl, by omega, by omega⟩
    · rintro σ H2 ⟨rfl, b, y2, rfl, b0, b1⟩
      refine ⟨.int b, rfl, .ref a, rfl, a, _, rfl, .inl hS, fun l hl2 => ⟨by show 4 ≤ sizeLine; decide, fun p hp => ?_⟩⟩
      have hne : l ≠ p := ne_of_none upd_same hp
      refine q p l _ ((same_new hl2).trans (same_new hp)) ((same_new hl2).free hp) hl2 ⟨0, b, 0, ns, upd_same, ?_, by omega, b0, b1, by omega, by decide, hne.symm⟩
      rw [upd_ne hne, upd_same]

abbrev s__law_sip : Stmt := topS 24
theorem sc__law_sip : FnScope ["cup", "many", "size", "drawn"] ["cup", "many"] (defScope s__law_sip) := ⟨rfl, rfl, rfl, by decide +kernel, rfl, by decide +kernel, by decide +kernel⟩
def sp_sip : Sp := fun vs H Q _ => ∃ (c L : Addr) (m : Int) (n : Nat), vs = [.ref c, .int m] ∧ Cup H c L (n + 1) ∧ 0 < m ∧ m < 2 ^ 140 ∧ ∀ d H', 0 ≤ d → d < m → Cup H' c L n → But c L H H' → Q (.int d) H'
theorem ok__law_sip {f : Addr} {fd : FuncData} {k : Nat} (F : Fun K "_law_sip" "_law_sip" s__law_sip f fd) (T : Tx K mg) : FnOk P w K mg base CX0 (k + 1) f fd ["cup", "many"] sp_sip := by
  have nd := sc__law_sip.nd
  refine F.ok sc__law_sip (fun vs H Q E h => ?_) (fun cdv A outer s H vs Q E hr h => ?_)
  · obtain ⟨_, _, _, _, rfl, _⟩ := h
    rfl
  · obtain ⟨c, L, m, n, rfl, u, m0, m1, q⟩ := h
    refine ⟨_, (C8.pss_cut (ps_if (PW.pt (pw_and (pt_cmpR op_eq (pe_ix (kix_list K) (pv 0) pe_int (fun _ _ => rfl)) pe_int (nomark _)) (pw_and1 (pt_cmpR (kop_neD K hr.units) (pe_ix (kix_list K) (pv 0) pe_int (fun _ _ => rfl)) (pe_lst pa_nil) (nomark _)))))
        (pss_cons (ps_set (i := 2) nd rfl (.inl rfl) (pe_callB call_abs (by rfl) T.m_abs (by decide +kernel) (pa_cons (pe_callTy call_int1 (by rfl) T.m_int (by decide +kernel) (pa_cons (pe_bm PySem.F.plainAttrs_list PySem.F.slot_list_pop PySem.F.type_list_pop mt_popAt (pe_ix (kix_list K) (pv 0) pe_int (fun _ _ => rfl)) (pa_cons pe_int pa_nil)) pa_nil)) pa_nil)))
        (pss_one (ps_asg (pe_ifExp (pt_cmpR op_ge (pv 2) (pe_op op_pow pe_int pe_int) (nomark _)) (pv 2) (pe_op op_add (pe_op op_mulW (pe_op op_fdivW (pe_op op_mulW (pv 2) (pv 2)) pe_int) pe_int) (pv 2))) (pg_sub (pv 0) pe_int set_list))))
        pss_nil)
      (pss_cons (ps_if (pt_cmpR op_gt (pe_ix (kix_list K) (pv 0) pe_int (fun _ _ => rfl)) pe_int (nomark _))
        (pss_cons (ps_set (i := 3) nd rfl (.inl rfl) (pe_op op_modN (pe_callTy call_int1 (by rfl) T.m_int (by decide +kernel) (pa_cons (pe_ix (kix_list K) (pv 0) pe_int (fun _ _ => rfl)) pa_nil)) (pv 1)))
        (pss_cons (ps_asg (pe_op op_fdivW (pe_ix (kix_list K) (pv 0) pe_int (fun _ _ => rfl)) (pv 1)) (pg_sub (pv 0) pe_int set_list))
        (pss_one (ps_ret (pv 3)))))
        pss_nil)
      (pss_cons (ps_asg (pe_op op_add (pe_ix (kix_list K) (pv 0) pe_int (fun _ _ => rfl)) pe_int) (pg_sub (pv 0) pe_int set_list))
      (pss_cons (ps_asg (pe_op op_modN (pe_callTy call_int1 (by rfl) T.m_int (by decide +kernel) (pa_cons (pe_op op_add (pe_op op_add (pe_op op_mulW (pe_ix (kix_list K) (pv 0) pe_int (fun _ _ => rfl)) pe_int) (pe_op op_mulW (pe_op op_mulW (pe_ix (kix_list K) (pv 0) pe_int (fun _ _ => rfl)) (pe_ix (kix_list K) (pv 0) pe_int (fun _ _ => rfl))) pe_int)) pe_int) pa_nil)) pe_int) (pg_sub (pv 0) pe_int set_list))
      (pss_one (ps_ret (pe_op op_modN (pe_op op_fdivW (pe_op op_modN (pe_callTy call_int1 (by rfl) T.m_int (by decide +kernel) (pa_cons (pe_op op_mulW (pe_ix (kix_list K) (pv 0) pe_int (fun _ _ => rfl)) (pe_op op_add (pe_op op_fdivW (pe_ix (kix_list K) (pv 0) pe_int (fun _ _ => rfl)) pe_int) pe_int)) pa_nil)) pe_int) pe_int) (pv 1)))))))), ?_⟩
    refine ⟨fun σ' H' => ∃ y2, σ' = [some (.ref c), some (.int m), y2, none] ∧ Cup H' c L (n + 1) ∧ But c L H H', ?_, ?_⟩
    · obtain ⟨a, b, k', ns, hc, hL, a0, b0, b1, k0, k1, ne⟩ := id u
      refine ⟨.ref c, rfl, c, _, 0, _, rfl, rfl, .of hc, atI_nat (j := 0) rfl, rfl, _, rfl, ?_⟩
      by_cases ha : a = 0
      · rw [decide_eq_true (show V.int a = V.int 0 by rw [ha])]
        refine iteT ⟨.ref c, rfl, c, _, 3, _, rfl, rfl, .of hc, atI_nat (j := 3) rfl, by show 0 ≤ sizeLine; decide, fun e he => ?_⟩
        have hc2 : (upd H e (.lst [])) c = some (.lst [.int a, .int b, .int k', .ref L]) := by rw [upd_ne (ne_of_none hc he)]; exact hc
        have hL2 : (upd H e (.lst [])) L = some (.lst (ns.map V.int)) := by rw [upd_ne (ne_of_none hL he)]; exact hL
        have bt : But c L H (upd H e (.lst [])) := but_same (same_new he)
        refine ⟨_, _, .lst (.of hL2) (dp_ints ns), .lst (.of upd_same) (.nil), shaped_ints ns, shaped_ints [], ?_⟩
        rw [eqv_ints_nil]
        cases hns : ns with
        | nil =>
          subst ha hns
          exact ⟨false, rfl, iteF ⟨none, rfl, u.same (same_new he), bt⟩⟩
        | cons v r =>
          rw [hns] at hL2
          refine ⟨true, rfl, iteT ?_⟩
          refine ⟨.ref c, rfl, c, _, 3, _, rfl, rfl, .of hc2, atI_nat (j := 3) rfl, .inl ⟨rfl, _, .of hL2⟩, L, _, 0, 0, .int v, rfl, rfl, hL2, by decide, by decide, ?_, rfl, .inl ⟨_, rfl, _, rfl, ?_⟩⟩
          · show seqIndex? 0 ((v :: r).map V.int).length = some 0
            unfold seqIndex?
            simp
          have hc3 : (upd (upd H e (.lst [])) L (.lst (((v :: r).map V.int).eraseIdx 0))) c = some (.lst [.int a, .int b, .int k', .ref L]) := by rw [upd_ne ne]; exact hc2
          have hL3 : (upd (upd H e (.lst [])) L (.lst (((v :: r).map V.int).eraseIdx 0))) L = some (.lst (r.map V.int)) := by rw [upd_same]; rfl
          have b3 : But c L H (upd (upd H e (.lst [])) L (.lst (((v :: r).map V.int).eraseIdx 0))) := fun x o h1 h2 h => by rw [upd_ne h2]; exact bt x o h1 h2 h
          generalize hG : upd (upd H e (.lst [])) L (.lst (((v :: r).map V.int).eraseIdx 0)) = G at *
          generalize hz : (if v < 0 then -v else v) = z
          have z0 : 0 ≤ z := by rw [← hz]; split <;> omega
          have fin : ∀ x : Int, 0 ≤ x → ∃ y2, [some (V.ref c), some (.int m), some (.int z), none] = [some (V.ref c), some (.int m), y2, none] ∧ Cup (upd G c (.lst [.int x, .int b, .int k', .ref L])) c L (n + 1) ∧ But c L H (upd G c (.lst [.int x, .int b, .int k', .ref L])) := by
            intro x x0
            refine ⟨_, rfl, ⟨x, b, k', r, upd_same, ?_, x0, b0, b1, k0, k1, ne⟩, fun y o h1 h2 h => ?_⟩
            · rw [upd_ne ne.symm]; exact hL3
            · rw [upd_ne h1]; exact b3 y o h1 h2 h
          have p18 : (10 : Int) ^ (18 : Int).toNat = 1000000000000000000 := by decide
          refine ⟨.int z, rfl, _, _, rfl, rfl, ⟨by decide, by decide, by decide⟩, _, _, rfl, rfl, _, rfl, ?_⟩
          rw [p18]
          by_cases hbig : z ≥ 1000000000000000000
          · rw [decide_eq_true hbig]
            exact iteT ⟨.int z, rfl, .ref c, rfl, c, _, 0, 0, rfl, rfl, hc3, rfl, fin z z0⟩
          · rw [decide_eq_false hbig]
            have zb : z.natAbs < 2 ^ 60 := abs_lt z0 (by omega)
            have zz : (z * z).natAbs < 2 ^ 120 := lt_mul zb zb
            have zq0 : 0 ≤ z * z / 97 := Int.ediv_nonneg (Int.mul_nonneg z0 z0) (by decide)
            have zq : (z * z / 97).natAbs < 2 ^ 120 := Nat.lt_of_le_of_lt (Int.natAbs_ediv_le_natAbs _ _) zz
            refine iteF ⟨.int z, rfl, .int z, rfl, _, _, rfl, rfl, wide_mul zb zb (by decide) (by decide) (by decide), _, _, rfl, rfl, wide_div (b := 7) (by decide) (by decide) (by decide) (by decide), _, _, rfl, rfl, wide_mul (b := 16) zq (by decide) (by decide) (by decide) (by decide), .int z, rfl, _, _, rfl, rfl, ?_⟩
            exact ⟨.ref c, rfl, c, _, 0, 0, rfl, rfl, hc3, rfl, fin _ (Int.add_nonneg (Int.mul_nonneg zq0 (by decide)) z0)⟩
      · rw [decide_eq_false (show ¬ V.int a = V.int 0 from fun z => ha (V.int.inj z))]
        exact iteF ⟨none, rfl, u, But.refl c L H⟩
    · rintro σ' H' ⟨y2, rfl, u', bt⟩
      obtain ⟨a, b, k', ns, hc, hL, a0, b0, b1, k0, k1, ne⟩ := id u'
      have mabs : m.natAbs < 2 ^ 140 := abs_lt (by omega) m1
      refine ⟨.ref c, rfl, c, _, 0, _, rfl, rfl, .of hc, atI_nat (j := 0) rfl, _, _, rfl, rfl, _, rfl, ?_⟩
      by_cases ha : a > 0
      · rw [decide_eq_true ha]
        refine iteT ⟨.ref c, rfl, c, _, 0, _, rfl, rfl, .of hc, atI_nat (j := 0) rfl, .inl ⟨_, rfl, .int m, rfl, _, _, rfl, rfl, (by show m ≠ 0; omega), ?_⟩⟩
        refine ⟨.ref c, rfl, c, _, 0, _, rfl, rfl, .of hc, atI_nat (j := 0) rfl, .int m, rfl, _, _, rfl, rfl, wide_div m0 mabs (by decide) (by decide), .ref c, rfl, c, _, 0, 0, rfl, rfl, hc, rfl, ?_⟩
        have h := fmod_in (x := a) m0
        refine ⟨_, rfl, q _ _ h.1 h.2 ⟨a / m, b, k', ns, upd_same, ?_, Int.ediv_nonneg a0 (by omega), b0, b1, k0, by omega, ne⟩ fun y o h1 h2 h => ?_⟩
        · rw [upd_ne ne.symm]; exact hL
        · rw [upd_ne h1]; exact bt y o h1 h2 h
      · rw [decide_eq_false ha]
        have kb : (k' + 1).natAbs < 2 ^ 41 := abs_lt (by omega) (by omega)
        have bb : b.natAbs < 2 ^ 40 := abs_lt b0 b1
        refine iteF ⟨.ref c, rfl, c, _, 2, _, rfl, rfl, .of hc, atI_nat (j := 2) rfl, _, _, rfl, rfl, .ref c, rfl, c, _, 2, 2, rfl, rfl, hc, rfl, ?_⟩
        have hc2 : (upd H' c (.lst [.int a, .int b, .int (k' + 1), .ref L])) c = some (.lst [.int a, .int b, .int (k' + 1), .ref L]) := upd_same
        have hL2 : (upd H' c (.lst [.int a, .int b, .int (k' + 1), .ref L])) L = some (.lst (ns.map V.int)) := by rw [upd_ne ne.symm]; exact hL
        have bt2 : But c L H (upd H' c (.lst [.int a, .int b, .int (k' + 1), .ref L])) := fun y o h1 h2 h => by rw [upd_ne h1]; exact bt y o h1 h2 h
        show tSeq _ _ _ _ (upd H' c (.lst [.int a, .int b, .int (k' + 1), .ref L]))
        generalize upd H' c (.lst [.int a, .int b, .int (k' + 1), .ref L]) = G at *
        have kk : ((k' + 1) * (k' + 1)).natAbs < 2 ^ 82 := lt_mul kb kb
        refine ⟨.ref c, rfl, c, _, 1, _, rfl, rfl, .of hc2, atI_nat (j := 1) rfl, _, _, rfl, rfl, wide_mul (b := 15) bb (by decide) (by decide) (by decide) (by decide), ?_⟩
        refine ⟨.ref c, rfl, c, _, 2, _, rfl, rfl, .of hc2, atI_nat (j := 2) rfl, .ref c, rfl, c, _, 2, _, rfl, rfl, .of hc2, atI_nat (j := 2) rfl, _, _, rfl, rfl, wide_mul kb kb (by decide) (by decide) (by decide), _, _, rfl, rfl, wide_mul (b := 13) kk (by decide) (by decide) (by decide) (by decide), _, _, rfl, rfl, _, _, rfl, rfl, .inl ⟨_, rfl, _, _, rfl, rfl, (by show (2147483647 : Int) ≠ 0; decide), ?_⟩⟩
        have hr2 := fmod_in (x := b * 16807 + (k' + 1) * (k' + 1) * 4099 + 77) (m := 2147483647) (by decide)
        refine ⟨.ref c, rfl, c, _, 1, 1, rfl, rfl, hc2, rfl, ?_⟩
        have hc3 : (upd G c (.lst [.int a, .int ((b * 16807 + (k' + 1) * (k' + 1) * 4099 + 77).fmod 2147483647), .int (k' + 1), .ref L])) c = some (.lst [.int a, .int ((b * 16807 + (k' + 1) * (k' + 1) * 4099 + 77).fmod 2147483647), .int (k' + 1), .ref L]) := upd_same
        have bt3 : But c L H (upd G c (.lst [.int a, .int ((b * 16807 + (k' + 1) * (k' + 1) * 4099 + 77).fmod 2147483647), .int (k' + 1), .ref L])) := fun y o h1 h2 h => by rw [upd_ne h1]; exact bt2 y o h1 h2 h
        have hL3 : (upd G c (.lst [.int a, .int ((b * 16807 + (k' + 1) * (k' + 1) * 4099 + 77).fmod 2147483647), .int (k' + 1), .ref L])) L = some (.lst (ns.map V.int)) := by rw [upd_ne ne.symm]; exact hL2
        dsimp only [List.set]
        generalize hx : (b * 16807 + (k' + 1) * (k' + 1) * 4099 + 77).fmod 2147483647 = x at *
        generalize upd G c (.lst [.int a, .int x, .int (k' + 1), .ref L]) = G3 at *
        have xb : x.natAbs < 2 ^ 31 := abs_lt hr2.1 (by omega)
        have x5 : (x / 1009 + 5).natAbs < 2 ^ 32 := by
          have h1 : 0 ≤ x / 1009 := Int.ediv_nonneg hr2.1 (by decide)
          have h2 : x / 1009 ≤ x := Int.ediv_le_self _ hr2.1
          exact abs_lt (by omega) (by omega)
        refine ⟨.ref c, rfl, c, _, 1, _, rfl, rfl, .of hc3, atI_nat (j := 1) rfl, .ref c, rfl, c, _, 1, _, rfl, rfl, .of hc3, atI_nat (j := 1) rfl, _, _, rfl, rfl, wide_div (b := 10) (by decide) (by decide) (by decide) (by decide), _, _, rfl, rfl, _, _, rfl, rfl, wide_mul xb x5 (by decide) (by decide) (by decide), ?_⟩
        refine .inl ⟨_, rfl, _, _, rfl, rfl, (by show (2147483629 : Int) ≠ 0; decide), _, _, rfl, rfl, wide_div (b := 6) (by decide) (by decide) (by decide) (by decide), .int m, rfl, _, _, rfl, rfl, (by show m ≠ 0; omega), ?_⟩
        have h := fmod_in (x := (x * (x / 1009 + 5)).fmod 2147483629 / 61) m0
        exact q _ _ h.1 h.2 ⟨a, x, k' + 1, ns, hc3, hL3, a0, hr2.1, by omega, by omega, by omega, ne⟩ bt3
end
end K41

set_option Elab.async false
set_option linter.all false
set_option maxRecDepth 100000
set_option exponentiation.threshold 20000
namespace K41
open PySem PySem.Spec PyProof.Rows L2 Ly Mt
theorem But.free {c L : Addr} {H H' : Hp} {n : Nat} {p : Addr} (s : But c L H H') (u : Cup H' c L n) (h : H' p = none) : H p = none := by
  obtain ⟨_, _, _, _, h1, h2, _⟩ := u
  cases e : H p with
  | none => rfl
  | some o =>
    by_cases q : p = c
    · subst q; rw [h1] at h; cases h
    · by_cases q2 : p = L
      · subst q2; rw [h2] at h; cases h
      · rw [s p o q q2 e] at h; cases h
section
variable {P : Program} {w : World} {K : PySem.W.Frag} {mg : Str → Option Value} {base : Heap}

abbrev s__law_ratio : Stmt := topS 25
theorem sc__law_ratio : FnScope ["top", "bottom", "common", "other"] ["top", "bottom"] (defScope s__law_ratio) := ⟨rfl, rfl, rfl, by decide +kernel, rfl, by decide +kernel, by decide +kernel⟩
def sp_ratio (K : PySem.W.Frag) : Sp := fun vs H Q _ => ∃ t b, vs = [.int t, .int b] ∧ 0 < b ∧ b.natAbs < 2 ^ 9000 ∧ ∀ p, H p = none → Im K (upd H p (.tup [.int (Rat.divInt t b).num, .int ((Rat.divInt t b).den : Int)])) (.ref p) (rD (Rat.divInt t b)) → Q (.ref p) (upd H p (.tup [.int (Rat.divInt t b).num, .int ((Rat.divInt t b).den : Int)]))
theorem ok__law_ratio {f : Addr} {fd : FuncData} {k : Nat} (F : Fun K "_law_ratio" "_law_ratio" s__law_ratio f fd) (T : Tx K mg) : FnOk P w K mg base CX0 (k + 1) f fd ["top", "bottom"] (sp_ratio K) := by
  have nd := sc__law_ratio.nd
  refine F.ok sc__law_ratio (fun vs H Q E h => ?_) (fun cdv A outer s H vs Q E hr h => ?_)
  · obtain ⟨_, _, rfl, _⟩ := h
    rfl
  · obtain ⟨t, b, rfl, hb, hs, q⟩ := h
    refine ⟨_, (pss_cons (ps_par (i := 2) (j := 3) (by rfl) nd rfl rfl (by decide) rfl rfl (pa_cons (pe_callB call_abs (by rfl) T.m_abs (by decide +kernel) (pa_cons (pv 1) pa_nil)) (pa_cons (pe_callB call_abs (by rfl) T.m_abs (by decide +kernel) (pa_cons (pv 0) pa_nil)) pa_nil)) (by rfl))
      (pss_cons (ps_while PassesOwn.never (pt_cmpR op_gt (pv 3) pe_int (nomark _))
        (pss_one (ps_par (i := 2) (j := 3) (by rfl) nd rfl rfl (by decide) rfl rfl (pa_cons (pv 3) (pa_cons (pe_op op_modN (pe_callTy call_int1 (by rfl) T.m_int (by decide +kernel) (pa_cons (pv 2) pa_nil)) (pv 3)) pa_nil)) (by rfl))))
      (pss_cons (ps_if (pt_cmpR op_lt (pv 1) pe_int (nomark _))
        (pss_one (ps_set (i := 2) nd rfl (.inl rfl) (pe_un un_neg (pv 2))))
        pss_nil)
      (pss_one (ps_ret (pe_tup (pa_cons (pe_op op_fdivW (pv 0) (pv 2)) (pa_cons (pe_op op_fdivW (pv 1) (pv 2)) pa_nil)))))))), ?_⟩
    refine ⟨.int b, rfl, b, rfl, .int t, rfl, t, rfl, _, _, rfl, ?_⟩
    have eb : (if b < 0 then -b else b) = ((b.natAbs : Nat) : Int) := by split <;> omega
    have et : (if t < 0 then -t else t) = ((t.natAbs : Nat) : Int) := by split <;> omega
    rw [eb, et]
    refine while_by (fun σ H2 => H2 = H ∧ ∃ x y : Nat, σ = [some (.int t), some (.int b), some (.int x), some (.int y)] ∧ 0 < x ∧ Nat.gcd x y = Nat.gcd t.natAbs b.natAbs) (fun σ _ => match σ with | [_, _, _, some (.int y)] => y.toNat | _ => 0) ⟨rfl, b.natAbs, t.natAbs, rfl, by omega, Nat.gcd_comm _ _⟩ ?_ ?_
    · rintro σ H2 ⟨rfl, x, y, rfl, x0, hg⟩
      refine ⟨.int y, rfl, _, _, rfl, rfl, _, rfl, ?_⟩
      by_cases hy : 0 < y
      · rw [decide_eq_true (show (y : Int) > 0 by omega)]
        refine iteT ⟨.int y, rfl, .int x, rfl, .inl ⟨_, rfl, .int y, rfl, _, _, rfl, rfl, (by show (y : Int) ≠ 0; omega), _, _, rfl, ⟨rfl, y, x % y, ?_, hy, ?_⟩, ?_⟩⟩
        · have e : (x : Int).fmod (y : Int) = ((x % y : Nat) : Int) := by rw [Int.fmod_eq_emod_of_nonneg _ (by omega)]; rfl
          show [some (V.int t), some (V.int b), some (V.int y), some (V.int ((x : Int).fmod (y : Int)))] = _
          rw [e]
        · rw [Nat.gcd_comm, ← Nat.gcd_rec, Nat.gcd_comm, hg]
        · have e : (x : Int).fmod (y : Int) = ((x % y : Nat) : Int) := by rw [Int.fmod_eq_emod_of_nonneg _ (by omega)]; rfl
          show ((x : Int).fmod (y : Int)).toNat < ((y : Int)).toNat
          rw [e]
          have := Nat.mod_lt x hy
          omega
      · rw [decide_eq_false (show ¬ (y : Int) > 0 by omega)]
        have y0 : y = 0 := by omega
        subst y0
        rw [Nat.gcd_zero_right] at hg
        subst hg
        refine iteF ⟨.int b, rfl, _, _, rfl, rfl, _, rfl, ?_⟩
        rw [decide_eq_false (show ¬ b < 0 by omega)]
        have c := wide_div (i := t) (gcd_pos (t := t) hb) (Nat.lt_of_le_of_lt (gcd_le hb) hs) (by decide) (Nat.le_refl _)
        have c' := wide_div (i := b) (gcd_pos (t := t) hb) (Nat.lt_of_le_of_lt (gcd_le hb) hs) (by decide) (Nat.le_refl _)
        refine iteF ⟨.int t, rfl, .int _, rfl, _, _, rfl, rfl, c, .int b, rfl, .int _, rfl, _, _, rfl, rfl, c', by show 2 ≤ sizeLine; decide, fun p hp => ?_⟩
        have z := q p hp (rat_mk (.inl upd_same))
        rw [← made_num hb, ← made_den hb] at z
        exact z
    · rintro σ H2 Q1 Q2 hm ⟨v, e, i, j, h1, h2, k', h3, h4⟩
      exact ⟨v, e, i, j, h1, h2, k', h3, hm _ _ h4⟩

abbrev s__law_total : Stmt := topS 26
theorem sc__law_total : FnScope ["ones", "others", "top", "bottom", "k", "low"] ["ones", "others"] (defScope s__law_total) := ⟨rfl, rfl, rfl, by decide +kernel, rfl, by decide +kernel, by decide +kernel⟩
def sp_total (K : PySem.W.Frag) : Sp := fun vs H Q _ => ∃ v l xs ws ys, vs = [v, .ref l] ∧ Im K H v (vD xs) ∧ H l = some (.lst ws) ∧ ImAll K H ws (ys.map rD) ∧ xs.length = ys.length ∧ xs.length ≤ 48 ∧ (∀ x ∈ xs, Bd 400 40 x) ∧ (∀ y ∈ ys, Bd 400 40 y) ∧
  ∀ p t b H', Same H H' → H p = none → H' p = some (.tup [.int t, .int b]) → 0 < b → b.natAbs < 2 ^ 9000 → Rat.divInt t b = dot xs ys → Q (.ref p) H'
theorem ok__law_total {f : Addr} {fd : FuncData} {k : Nat} (F : Fun K "_law_total" "_law_total" s__law_total f fd) (T : Tx K mg) : FnOk P w K mg base CX0 (k + 1) f fd ["ones", "others"] (sp_total K) := by
  have nd := sc__law_total.nd
  refine F.ok sc__law_total (fun vs H Q E h => ?_) (fun cdv A outer s H vs Q E hr h => ?_)
  · obtain ⟨_, _, _, _, _, rfl, _⟩ := h
    rfl
  · obtain ⟨v, l, xs, ws, ys, rfl, hv, hL, iw, hl, h48, bx, bw, q⟩ := h
    obtain ⟨a, us, rfl, ha, hus⟩ := vec_inv hv
    have lu : us.length = xs.length := all_len hus
    refine ⟨_, (pss_cons (ps_asg (pe_tup (pa_cons pe_int (pa_cons pe_int pa_nil))) (kpg_tup K (n := 2) rfl (pgs_cons (pg_name (i := 2) nd rfl (.inl rfl)) (pgs_cons (pg_name (i := 3) nd rfl (.inl rfl)) pgs_nil))))
      (pss_cons (ps_for PassesOwn.never rfl (pi_range1 rfl T.m_range (pa_cons (pe_callB (kcall_len K) (by rfl) T.m_len PySem.boot_len (pa_cons (pv 0) pa_nil)) pa_nil)) (pg_name (i := 4) nd rfl (.inl rfl))
        (pss_one (ps_if (PW.pt (pw_and (pt_cmpR op_ne (pe_ix (kix_tup K) (pe_ix (kix_tup K) (pv 0) (pv 4) (fun _ _ => rfl)) pe_int (fun _ _ => rfl)) pe_int (nomark _)) (pw_and1 (pt_cmpR op_ne (pe_ix (kix_tup K) (pe_ix (kix_list K) (pv 1) (pv 4) (fun _ _ => rfl)) pe_int (fun _ _ => rfl)) pe_int (nomark _)))))
          (pss_cons (ps_set (i := 5) nd rfl (.inl rfl) (pe_op op_mulW (pe_ix (kix_tup K) (pe_ix (kix_tup K) (pv 0) (pv 4) (fun _ _ => rfl)) pe_int (fun _ _ => rfl)) (pe_ix (kix_tup K) (pe_ix (kix_list K) (pv 1) (pv 4) (fun _ _ => rfl)) pe_int (fun _ _ => rfl))))
          (pss_one (ps_par (i := 2) (j := 3) (by rfl) nd rfl rfl (by decide) rfl rfl (pa_cons (pe_op op_add (pe_op op_mulW (pv 2) (pv 5)) (pe_op op_mulW (pe_op op_mulW (pe_ix (kix_tup K) (pe_ix (kix_tup K) (pv 0) (pv 4) (fun _ _ => rfl)) pe_int (fun _ _ => rfl)) (pe_ix (kix_tup K) (pe_ix (kix_list K) (pv 1) (pv 4) (fun _ _ => rfl)) pe_int (fun _ _ => rfl))) (pv 3))) (pa_cons (pe_op op_mulW (pv 3) (pv 5)) pa_nil)) (by rfl))))
          pss_nil)))
      (pss_one (ps_ret (pe_tup (pa_cons (pv 2) (pa_cons (pv 3) pa_nil))))))), ?_⟩
    refine ⟨by show 2 ≤ sizeLine; decide, fun p0 hp0 => ⟨p0, _, rfl, .of upd_same, rfl, .int 0, _, rfl, .int 1, _, rfl, rfl, ?_⟩⟩
    have sm0 : Same H (upd H p0 (.tup [.int 0, .int 1])) := same_new hp0
    generalize upd H p0 (.tup [.int 0, .int 1]) = G at *
    replace ha := ha.mono (tk_same sm0)
    replace hus := ImAll.mono (tk_same sm0) _ hus
    replace iw := ImAll.mono (tk_same sm0) _ iw
    replace hL := sm0 _ _ hL
    refine ⟨.ref a, rfl, a, us, rfl, .inr ha.sq, (us.length : Nat), rfl, by omega, by omega, ?_⟩
    refine for_it (walk_range (lo := 0) (n := us.length)) (fun i σ H2 => H2 = G ∧ ∃ t b y4 y5, σ = [some (.ref a), some (.ref l), some (.int t), some (.int b), y4, y5] ∧ 0 < b ∧ t.natAbs < 2 ^ (801 + 82 * i) ∧ b.natAbs < 2 ^ (1 + 80 * i) ∧ Rat.divInt t b = dot (xs.take i) (ys.take i)) ⟨rfl, 0, 1, none, none, rfl, by decide, by decide, by decide, ?_⟩ (fun _ _ _ _ _ => trivial) ?_ ?_
    · rw [List.take_zero, dot_nil]; rfl
    · rintro i x σ H2 H3 hi ⟨rfl, t, b, y4, y5, rfl, b0, tb, bb, e⟩ ⟨rfl, rfl⟩
      have hxi : xs[i]? = some (xs[i]'(by omega)) := List.getElem?_eq_getElem (by omega)
      have hyi : ys[i]? = some (ys[i]'(by omega)) := List.getElem?_eq_getElem (by omega)
      generalize xs[i]'(by omega) = xi at hxi
      generalize ys[i]'(by omega) = yi at hyi
      obtain ⟨u1, hu1, i1⟩ := all_at hus hxi
      obtain ⟨u2, hu2, i2⟩ := all_at iw hyi
      obtain ⟨a1, rfl, ha1⟩ := rat_inv i1
      obtain ⟨a2, rfl, ha2⟩ := rat_inv i2
      have bxi := bx xi (List.mem_of_getElem? hxi)
      have byi := bw yi (List.mem_of_getElem? hyi)
      have hd := dot_take hxi hyi
      have k0 : ((0 : Int) + (i : Nat)) = ((i : Nat) : Int) := by omega
      have g1 : atI us ((0 : Int) + (i : Nat)) = some (.ref a1) := by rw [k0]; exact atI_nat hu1
      have g2 : atI ws ((0 : Int) + (i : Nat)) = some (.ref a2) := by rw [k0]; exact atI_nat hu2
      have i82 : 801 + 82 * i ≤ 801 + 82 * 48 := by omega
      have i80 : 1 + 80 * i ≤ 1 + 80 * 48 := by omega
      have up : ∀ {t' b' : Int}, t'.natAbs < 2 ^ (801 + 82 * i) → b'.natAbs < 2 ^ (1 + 80 * i) → t'.natAbs < 2 ^ (801 + 82 * (i + 1)) ∧ b'.natAbs < 2 ^ (1 + 80 * (i + 1)) := fun h1 h2 => ⟨lt_up h1 (by omega), lt_up h2 (by omega)⟩
      have same : xi * yi = 0 → 0 < b ∧ t.natAbs < 2 ^ (801 + 82 * (i + 1)) ∧ b.natAbs < 2 ^ (1 + 80 * (i + 1)) ∧ Rat.divInt t b = dot (xs.take (i + 1)) (ys.take (i + 1)) := fun z => ⟨b0, (up tb bb).1, (up tb bb).2, by rw [hd, z, Rat.add_zero]; exact e⟩
      refine ⟨.ref a, rfl, .int _, rfl, a, us, _, _, rfl, rfl, ha.sq, g1, a1, _, 0, _, rfl, rfl, ha1.sq, atI_nat (j := 0) rfl, rfl, _, rfl, ?_⟩
      by_cases x0 : xi.num = 0
      · rw [decide_eq_true (show V.int xi.num = V.int 0 by rw [x0])]
        refine iteF (iteF ⟨rfl, t, b, _, y5, rfl, same ?_⟩)
        rw [num_zero x0, Rat.zero_mul]
      rw [decide_eq_false (show ¬ V.int xi.num = V.int 0 from fun z => x0 (V.int.inj z))]
      refine iteT ⟨.ref l, rfl, .int _, rfl, l, ws, _, _, rfl, rfl, .of hL, g2, a2, _, 0, _, rfl, rfl, ha2.sq, atI_nat (j := 0) rfl, rfl, _, rfl, ?_⟩
      by_cases y0 : yi.num = 0
      · rw [decide_eq_true (show V.int yi.num = V.int 0 by rw [y0])]
        refine iteF ⟨rfl, t, b, _, y5, rfl, same ?_⟩
        rw [num_zero y0, Rat.mul_zero]
      rw [decide_eq_false (show ¬ V.int yi.num = V.int 0 from fun z => y0 (V.int.inj z))]
      have low : ((xi.den : Int) * (yi.den : Int)).natAbs < 2 ^ 80 := lt_mul bxi.2 byi.2
      have top : (xi.num * yi.num).natAbs < 2 ^ 800 := lt_mul bxi.1 byi.1
      have low0 : 0 < (xi.den : Int) * (yi.den : Int) := Int.mul_pos (den_pos xi) (den_pos yi)
      have c80 : (0 : Nat) < 80 := by decide
      have c800 : (0 : Nat) < 800 := by decide
      refine iteT ⟨.ref a, rfl, .int _, rfl, a, us, _, _, rfl, rfl, ha.sq, g1, a1, _, 1, _, rfl, rfl, ha1.sq, atI_nat (j := 1) rfl, .ref l, rfl, .int _, rfl, l, ws, _, _, rfl, rfl, .of hL, g2, a2, _, 1, _, rfl, rfl, ha2.sq, atI_nat (j := 1) rfl, _, _, rfl, rfl, wide_mul bxi.2 byi.2 (by decide) (by decide) (by decide), ?_⟩
      refine ⟨.int t, rfl, .int _, rfl, _, _, rfl, rfl, wide_mul tb low (by omega) c80 (by omega), ?_⟩
      refine ⟨.ref a, rfl, .int _, rfl, a, us, _, _, rfl, rfl, ha.sq, g1, a1, _, 0, _, rfl, rfl, ha1.sq, atI_nat (j := 0) rfl, .ref l, rfl, .int _, rfl, l, ws, _, _, rfl, rfl, .of hL, g2, a2, _, 0, _, rfl, rfl, ha2.sq, atI_nat (j := 0) rfl, _, _, rfl, rfl, wide_mul bxi.1 byi.1 (by decide) (by decide) (by decide), .int b, rfl, _, _, rfl, rfl, wide_mul top bb c800 (by omega) (by omega), _, _, rfl, rfl, ?_⟩
      refine ⟨.int b, rfl, .int _, rfl, _, _, rfl, rfl, wide_mul bb low (by omega) c80 (by omega), _, _, rfl, rfl, _, _, _, _, rfl, Int.mul_pos b0 low0, ?_, ?_, ?_⟩
      · have e1 : 801 + 82 * (i + 1) = (881 + 82 * i + 1) + 1 := by omega
        rw [e1]
        exact lt_add (lt_up (lt_mul tb low) (by omega)) (lt_up (lt_mul top bb) (by omega))
      · exact lt_up (lt_mul bb low) (by omega)
      · have bn : b ≠ 0 := by omega
        have ln : (xi.den : Int) * (yi.den : Int) ≠ 0 := by omega
        show Rat.divInt (t * ((xi.den : Int) * (yi.den : Int)) + xi.num * yi.num * b) (b * ((xi.den : Int) * (yi.den : Int))) = _
        rw [← Rat.divInt_add_divInt _ _ bn ln, mul_as, hd, e]
    · rintro σ H2 ⟨rfl, t, b, y4, y5, rfl, b0, tb, bb, e⟩
      rw [List.take_of_length_le (by omega), List.take_of_length_le (by omega)] at e
      exact ⟨.int t, rfl, .int b, rfl, by show 2 ≤ sizeLine; decide, fun p hp => q p t b _ (sm0.trans (same_new hp)) (sm0.free hp) upd_same b0 (lt_up bb (by omega)) e⟩
end
end K41

set_option Elab.async false
set_option linter.all false
set_option maxRecDepth 100000
set_option exponentiation.threshold 20000
namespace K41
open PySem PySem.Spec PyProof.Rows L2 Ly Mt
theorem Cup.upd {c L D : Addr} {H : Hp} {o : HO} {n : Nat} (u : Cup H c L n) (h1 : D ≠ c) (h2 : D ≠ L) : Cup (upd H D o) c L n := by
  obtain ⟨a, b, k, ns, hc, hL, r⟩ := u
  exact ⟨a, b, k, ns, by rw [upd_ne h1.symm]; exact hc, by rw [upd_ne h2.symm]; exact hL, r⟩
theorem Cup.ne {c L D : Addr} {H : Hp} {n : Nat} (u : Cup H c L n) (h : H D = none) : D ≠ c ∧ D ≠ L := by
  obtain ⟨a, b, k, ns, hc, hL, r⟩ := u
  exact ⟨(ne_of_none hc h).symm, (ne_of_none hL h).symm⟩
/-- data of ints and tuples, nested less than d deep -/
inductive Fl : Nat → PyData → Prop
  | int (d : Nat) (i : Int) : Fl d (.int i)
  | tup (d : Nat) (ds : List PyData) : ds.length ≤ 1000 → (∀ x ∈ ds, Fl d x) → Fl (d + 1) (.tuple ds)
theorem fl_rat (q : Rat) : Fl 1 (rD q) := .tup 0 _ (by show 2 ≤ 1000; decide) fun x hx => by
  have : x = .int q.num ∨ x = .int (q.den : Int) := by simpa using hx
  rcases this with h | h <;> rw [h] <;> exact .int 0 _
theorem fl_vec {r : List Rat} (h : r.length ≤ 1000) : Fl 2 (vD r) := .tup 1 _ (by rw [List.length_map]; exact h) fun x hx => by
  obtain ⟨q, _, rfl⟩ := List.mem_map.mp hx
  exact fl_rat q
theorem fl_mat {A : List (List Rat)} (h : A.length ≤ 1000) (h2 : ∀ r ∈ A, r.length ≤ 1000) : Fl 3 (mD A) := .tup 2 _ (by rw [List.length_map]; exact h) fun x hx => by
  obtain ⟨r, hr, rfl⟩ := List.mem_map.mp hx
  exact fl_vec (h2 r hr)
section
variable {P : Program} {w : World} {K : PySem.W.Frag} {mg : Str → Option Value} {base : Heap}

abbrev s__law_entry : Stmt := topS 27
theorem sc__law_entry : FnScope ["cup", "great", "top"] ["cup", "great"] (defScope s__law_entry) := ⟨rfl, rfl, rfl, by decide +kernel, rfl, by decide +kernel, by decide +kernel⟩
def sp_entry (K : PySem.W.Frag) : Sp := fun vs H Q _ => ∃ c L g n, vs = [.ref c, .bl g] ∧ Cup H c L (n + 5) ∧ ∀ q p H', Im K H' (.ref p) (rD q) → Bd 134 3 q → Cup H' c L n → But c L H H' → H p = none → Q (.ref p) H'
theorem ok__law_entry {f : Addr} {fd : FuncData} {k : Nat} (F : Fun K "_law_entry" "_law_entry" s__law_entry f fd) (T : Tx K mg){ki : Nat} (D__law_sip : Def P w K mg base ki "_law_sip" s__law_sip ["cup", "many"] sp_sip) (D__law_ratio : Def P w K mg base ki "_law_ratio" s__law_ratio ["top", "bottom"] (sp_ratio K)) (hk : ki ≤ k) : FnOk P w K mg base CX0 (k + 1) f fd ["cup", "great"] (sp_entry K) := by
  have nd := sc__law_entry.nd
  refine F.ok sc__law_entry (fun vs H Q E h => ?_) (fun cdv A outer s H vs Q E hr h => ?_)
  · obtain ⟨_, _, _, _, rfl, _⟩ := h
    rfl
  · obtain ⟨c, L, g, n, rfl, u, q⟩ := h
    refine ⟨_, (pss_cons (ps_set (i := 2) nd rfl (.inl rfl) (pe_op op_sub (pe_def D__law_sip (hr.mono (by omega)) rfl (pa_cons (pv 0) (pa_cons pe_int pa_nil))) pe_int))
      (C8.pss_cut (ps_if (PW.pt (pw_and (pt_val (pv 1)) (pw_and1 (pt_cmpR op_eq (pe_def D__law_sip (hr.mono (by omega)) rfl (pa_cons (pv 0) (pa_cons pe_int pa_nil))) pe_int (nomark _)))))
        (pss_one (ps_set (i := 2) nd rfl (.inl rfl) (pe_op op_mulW (pe_ix (kix_list K) (pe_lst (pa_cons pe_int (pa_cons (pe_un un_neg pe_int) pa_nil))) (pe_def D__law_sip (hr.mono (by omega)) rfl (pa_cons (pv 0) (pa_cons pe_int pa_nil))) (fun _ _ => rfl)) (pe_def D__law_sip (hr.mono (by omega)) rfl (pa_cons (pv 0) (pa_cons (pe_op op_pow pe_int pe_int) pa_nil))))))
        pss_nil)
      (pss_one (ps_ret (pe_def D__law_ratio (hr.mono (by omega)) rfl (pa_cons (pv 2) (pa_cons (pe_ix (kix_list K) (pe_lst (pa_cons pe_int (pa_cons pe_int (pa_cons pe_int (pa_cons pe_int (pa_cons pe_int (pa_cons pe_int (pa_cons pe_int pa_nil)))))))) (pe_def D__law_sip (hr.mono (by omega)) rfl (pa_cons (pv 0) (pa_cons pe_int pa_nil))) (fun _ _ => rfl)) pa_nil))))))), ?_⟩
    refine ⟨.ref c, rfl, c, L, 9, n + 4, rfl, u, by decide, by decide, fun d1 H1 d0 d9 u1 b1 => ⟨_, _, rfl, rfl, ?_⟩⟩
    have t1 : (d1 - 4).natAbs < 2 ^ 134 := by
      have : (d1 - 4).natAbs < 2 ^ 4 := by omega
      exact lt_up this (by decide)
    refine ⟨fun σ' H' => ∃ t, σ' = [some (.ref c), some (.bl g), some (.int t)] ∧ t.natAbs < 2 ^ 134 ∧ Cup H' c L (n + 1) ∧ But c L H H', ?_, ?_⟩
    · refine ⟨.bl g, rfl, g, rfl, ?_⟩
      cases g with
      | false => exact iteF (iteF ⟨_, rfl, t1, u1.less (by omega), b1⟩)
      | true =>
        refine iteT ⟨.ref c, rfl, c, L, 3, n + 3, rfl, u1, by decide, by decide, fun d2 H2 _ _ u2 b2 => ⟨rfl, _, rfl, ?_⟩⟩
        have b12 := b1.trans b2
        by_cases e2 : d2 = 0
        · rw [decide_eq_true (show V.int d2 = V.int 0 by rw [e2])]
          refine iteT ⟨_, rfl, by show 2 ≤ sizeLine; decide, fun l hl => ⟨.ref c, rfl, c, L, 2, n + 2, rfl, u2.same (same_new hl), by decide, by decide, fun d3 H3 d30 d31 u3 b3 => ?_⟩⟩
          have ne := u2.ne hl
          have hl3 : H3 l = some (.lst [.int 1, .int (-1)]) := b3 l _ ne.1 ne.2 upd_same
          have p40 : (10 : Int) ^ (40 : Int).toNat = 10000000000000000000000000000000000000000 := by decide
          obtain ⟨sg, hsg, gs⟩ : ∃ sg : Int, (sg = 1 ∨ sg = -1) ∧ atI [V.int 1, V.int (-1)] d3 = some (V.int sg) := by
            have : d3 = 0 ∨ d3 = 1 := by omega
            rcases this with rfl | rfl
            · exact ⟨1, .inl rfl, rfl⟩
            · exact ⟨-1, .inr rfl, rfl⟩
          refine ⟨l, _, d3, _, rfl, rfl, .of hl3, gs, .ref c, rfl, _, _, rfl, rfl, ⟨by decide, by decide, by decide⟩, ?_⟩
          refine ⟨c, L, _, n + 1, rfl, u3, by rw [p40]; decide, by rw [p40]; decide, fun d4 H4 d40 d41 u4 b4 => ?_⟩
          rw [p40] at d41
          have d4b : d4.natAbs < 2 ^ 133 := abs_lt d40 (by omega)
          have sgb : sg.natAbs < 2 ^ 1 := by rcases hsg with rfl | rfl <;> decide
          refine ⟨_, _, rfl, rfl, wide_mul sgb d4b (by decide) (by decide) (by decide), _, rfl, lt_up (lt_mul sgb d4b) (by decide), u4, ((b12.trans (but_same (same_new hl))).trans b3).trans b4⟩
        · rw [decide_eq_false (show ¬ V.int d2 = V.int 0 from fun z => e2 (V.int.inj z))]
          exact iteF ⟨_, rfl, t1, u2.less (by omega), b12⟩
    · rintro σ' H' ⟨t, rfl, tb, u', bt⟩
      refine ⟨.int t, rfl, by show 7 ≤ sizeLine; decide, fun l hl => ⟨.ref c, rfl, c, L, 7, n, rfl, u'.same (same_new hl), by decide, by decide, fun d5 H5 d50 d51 u5 b5 => ?_⟩⟩
      have ne := u'.ne hl
      have hl5 : H5 l = some (.lst [.int 1, .int 1, .int 2, .int 1, .int 3, .int 1, .int 7]) := b5 l _ ne.1 ne.2 upd_same
      obtain ⟨bo, hb0, hb8, gs⟩ : ∃ bo : Int, 0 < bo ∧ bo < 8 ∧ atI [V.int 1, V.int 1, V.int 2, V.int 1, V.int 3, V.int 1, V.int 7] d5 = some (V.int bo) := by
        have : d5 = 0 ∨ d5 = 1 ∨ d5 = 2 ∨ d5 = 3 ∨ d5 = 4 ∨ d5 = 5 ∨ d5 = 6 := by omega
        rcases this with rfl | rfl | rfl | rfl | rfl | rfl | rfl
        · exact ⟨1, by decide, by decide, rfl⟩
        · exact ⟨1, by decide, by decide, rfl⟩
        · exact ⟨2, by decide, by decide, rfl⟩
        · exact ⟨1, by decide, by decide, rfl⟩
        · exact ⟨3, by decide, by decide, rfl⟩
        · exact ⟨1, by decide, by decide, rfl⟩
        · exact ⟨7, by decide, by decide, rfl⟩
      have bb : bo.natAbs < 2 ^ 3 := by omega
      refine ⟨l, _, d5, _, rfl, rfl, .of hl5, gs, t, bo, rfl, hb0, lt_up bb (by decide), fun p hp ip => ?_⟩
      have b6 : But c L H H5 := (bt.trans (but_same (same_new hl))).trans b5
      exact q _ p _ ip (bd_divInt hb0 tb bb) (u5.same (same_new hp)) (b6.trans (but_same (same_new hp))) (b6.free u5 hp)

abbrev s__law_same : Stmt := topS 28
theorem sc__law_same : FnScope ["found", "due", "k"] ["found", "due"] (defScope s__law_same) := ⟨rfl, rfl, rfl, by decide +kernel, rfl, by decide +kernel, by decide +kernel⟩
def sp_same (K : PySem.W.Frag) : Nat → Sp
  | 0 => fun _ _ _ _ => False
  | d + 1 => fun vs H Q _ => ∃ v1 v2 D, vs = [v1, v2] ∧ Im K H v1 D ∧ Im K H v2 D ∧ Fl d D ∧ ∀ H', Same H H' → Q (.bl true) H'
theorem ok_same0 {f : Addr} {fd : FuncData} {k : Nat} (F : Fun K "_law_same" "_law_same" s__law_same f fd) : FnOk P w K mg base CX0 (k + 1) f fd ["found", "due"] (sp_same K 0) := by
  exact F.ok sc__law_same (fun vs H Q E h => h.elim) (fun cdv A outer s H vs Q E hr h => h.elim)
theorem ok__law_same {f : Addr} {fd : FuncData} {k : Nat} (F : Fun K "_law_same" "_law_same" s__law_same f fd) (T : Tx K mg){ki d : Nat} (D__law_same : Def P w K mg base ki "_law_same" s__law_same ["found", "due"] (sp_same K d)) (hk : ki ≤ k) : FnOk P w K mg base CX0 (k + 1) f fd ["found", "due"] (sp_same K (d + 1)) := by
  have nd := sc__law_same.nd
  refine F.ok sc__law_same (fun vs H Q E h => ?_) (fun cdv A outer s H vs Q E hr h => ?_)
  · obtain ⟨_, _, _, rfl, _⟩ := h
    rfl
  · obtain ⟨v1, v2, D, rfl, i1, i2, fl, q⟩ := h
    refine ⟨_, (pss_cons (ps_if (pt_val (pe_callB (kcall_isi K) (by rfl) T.m_isinstance (by decide +kernel) (pa_cons (pv 1) (pa_cons (pe_bltn (v := .ty "tuple") (u := .type "tuple") (by rfl) T.m_tuple (by decide +kernel) rfl) pa_nil))))
        (pss_cons (ps_if (PW.pt (pw_or (pt_not (pt_val (pe_callB (kcall_isi K) (by rfl) T.m_isinstance (by decide +kernel) (pa_cons (pv 0) (pa_cons (pe_bltn (v := .ty "tuple") (u := .type "tuple") (by rfl) T.m_tuple (by decide +kernel) rfl) pa_nil))))) (pw_or1 (pt_cmpR op_ne (pe_callB (kcall_len K) (by rfl) T.m_len PySem.boot_len (pa_cons (pv 0) pa_nil)) (pe_callB (kcall_len K) (by rfl) T.m_len PySem.boot_len (pa_cons (pv 1) pa_nil)) (nomark _)))))
          (pss_one (ps_ret pe_bl))
          pss_nil)
        (pss_one (ps_ret (pe_callB (kcr_all K) (by rfl) T.m_all (by decide +kernel) (pa_cons (pe_lc (own := [("k", 2)]) (g := gName 2) (tt := tYes) rfl nd (pi_range1 rfl T.m_range (pa_cons (pe_callB (kcall_len K) (by rfl) T.m_len PySem.boot_len (pa_cons (pv 1) pa_nil)) pa_nil)) (blkOk_by (by rfl)) (fun _ _ _ _ _ => (pg_name (i := 2) nd rfl (.inl rfl))) (fun _ _ _ _ _ => pts_nil) (fun _ _ _ _ _ => (pe_def D__law_same (hr.mono (by omega)) rfl (pa_cons (pe_ix (kix_tup K) (pv 0) (pv 2) (fun _ _ => rfl)) (pa_cons (pe_ix (kix_tup K) (pv 1) (pv 2) (fun _ _ => rfl)) pa_nil))))) pa_nil)))))
        pss_nil)
      (pss_cons (ps_if (pt_cmp (pc_isN (pv 1)))
        (pss_one (ps_ret (pe_cmp (pc_isN (pv 0)) rfl)))
        pss_nil)
      (pss_cons (ps_if (pt_val (pe_callB (kcall_isi K) (by rfl) T.m_isinstance (by decide +kernel) (pa_cons (pv 1) (pa_cons (pe_bltn (v := .ty "bool") (u := .type "bool") (by rfl) T.m_bool (by decide +kernel) rfl) pa_nil))))
        (pss_one (ps_ret (pe_and (pe_callB (kcall_isi K) (by rfl) T.m_isinstance (by decide +kernel) (pa_cons (pv 0) (pa_cons (pe_bltn (v := .ty "bool") (u := .type "bool") (by rfl) T.m_bool (by decide +kernel) rfl) pa_nil))) (pe_one (pe_cmpR op_eq (pv 0) (pv 1) (nomark _))))))
        pss_nil)
      (pss_cons (ps_if (pt_val (pe_callB (kcall_isi K) (by rfl) T.m_isinstance (by decide +kernel) (pa_cons (pv 1) (pa_cons (pe_bltn (v := .ty "int") (u := .type "int") (by rfl) T.m_int (by decide +kernel) rfl) pa_nil))))
        (pss_one (ps_ret (pe_and (pe_callB (kcall_isi K) (by rfl) T.m_isinstance (by decide +kernel) (pa_cons (pv 0) (pa_cons (pe_bltn (v := .ty "int") (u := .type "int") (by rfl) T.m_int (by decide +kernel) rfl) pa_nil))) (pe_and (pe_not (pe_callB (kcall_isi K) (by rfl) T.m_isinstance (by decide +kernel) (pa_cons (pv 0) (pa_cons (pe_bltn (v := .ty "bool") (u := .type "bool") (by rfl) T.m_bool (by decide +kernel) rfl) pa_nil)))) (pe_one (pe_cmpR op_eq (pv 0) (pv 1) (nomark _)))))))
        pss_nil)
      (pss_one (ps_ret (pe_and (pe_callB (kcall_isi K) (by rfl) T.m_isinstance (by decide +kernel) (pa_cons (pv 0) (pa_cons (pe_bltn (v := .ty "str") (u := .type "str") (by rfl) T.m_str (by decide +kernel) rfl) pa_nil))) (pe_one (pe_cmpR op_eq (pv 0) (pv 1) (nomark _)))))))))), ?_⟩
    cases fl with
    | int d i =>
      rw [i1.int_inv, i2.int_inv]
      refine ⟨.int i, rfl, .int i, _, .type "int", _, false, rfl, .ty _, .base (.int i), kit_ty (by decide +kernel), false, rfl, iteF ?_⟩
      refine ⟨.int i, rfl, _, rfl, ?_⟩
      rw [decide_eq_false (show ¬ V.int i = V.non from fun z => nomatch z)]
      refine iteF ⟨.int i, rfl, .int i, _, .type "int", _, false, rfl, .ty _, .base (.int i), kit_ty (by decide +kernel), false, rfl, iteF ?_⟩
      refine ⟨.int i, rfl, .int i, _, .type "int", _, true, rfl, .ty _, .base (.int i), kit_ty (by decide +kernel), true, rfl, iteT ?_⟩
      refine ⟨.int i, rfl, .int i, _, .type "int", _, true, rfl, .ty _, .base (.int i), kit_ty (by decide +kernel), true, rfl, iteT ?_⟩
      refine ⟨.int i, rfl, .int i, _, .type "int", _, false, rfl, .ty _, .base (.int i), kit_ty (by decide +kernel), false, rfl, true, rfl, iteT ?_⟩
      refine ⟨.int i, rfl, .int i, rfl, rfl, ?_⟩
      rw [decide_eq_true rfl]
      exact q H (Same.refl H)
    | tup d ds hl hfl =>
      obtain ⟨a, xs, rfl, ha, hxs⟩ := i1.tuple_inv
      obtain ⟨b, ys, rfl, hb, hys⟩ := i2.tuple_inv
      have lx := hxs.length
      have ly := hys.length
      refine ⟨.ref b, rfl, .ref b, _, .type "tuple", _, true, rfl, .ty _, ity hb, kit_ty (by decide +kernel), true, rfl, iteT ?_⟩
      refine ⟨.ref a, rfl, .ref a, _, .type "tuple", _, true, rfl, .ty _, ity ha, kit_ty (by decide +kernel), true, rfl, iteF ?_⟩
      refine ⟨.ref a, rfl, a, xs, rfl, .inr ha.sq, .ref b, rfl, b, ys, rfl, .inr hb.sq, rfl, _, rfl, ?_⟩
      rw [show xs.length = ys.length by omega]
      refine iteNS rfl ?_
      refine ⟨.ref b, rfl, b, ys, rfl, .inr hb.sq, (ys.length : Nat), rfl, by omega, by omega, fun D2 hD => ?_⟩
      refine lc_all (walk_range (lo := 0) (n := ys.length)) (fun i H2 => Same H H2 ∧ H2 D2 = some (.lst ((List.replicate i true).map V.bl))) ⟨same_new hD, upd_same⟩ (fun _ _ _ _ => trivial) (fun i x H2 H3 hi z y => ?_) (fun H2 z => ?_)
      · obtain ⟨sm, eD⟩ := z
        obtain ⟨rfl, rfl⟩ := y
        have hd : ds[i]? = some (ds[i]'(by omega)) := List.getElem?_eq_getElem (by omega)
        generalize ds[i]'(by omega) = di at hd
        obtain ⟨x1, hx1, j1⟩ := hxs.get hd
        obtain ⟨x2, hx2, j2⟩ := hys.get hd
        have k0 : ((0 : Int) + (i : Nat)) = ((i : Nat) : Int) := by omega
        have g1 : atI xs ((0 : Int) + (i : Nat)) = some x1 := by rw [k0]; exact atI_nat hx1
        have g2 : atI ys ((0 : Int) + (i : Nat)) = some x2 := by rw [k0]; exact atI_nat hx2
        refine ⟨rfl, .ref a, rfl, .int _, rfl, a, xs, _, _, rfl, rfl, (ha.mono (tk_same sm)).sq, g1, .ref b, rfl, .int _, rfl, b, ys, _, _, rfl, rfl, (hb.mono (tk_same sm)).sq, g2, x1, x2, di, rfl, Im.mono (tk_same sm) _ j1, Im.mono (tk_same sm) _ j2, hfl di (List.mem_of_getElem? hd), fun H4 sm4 => ⟨_, sm4 _ _ eD, ?_, fun c o e => ?_, ?_⟩⟩
        · rw [List.length_map, List.length_replicate]; exact small1000 (by omega)
        · rw [upd_ne (ne_of_none e hD)]
          exact sm4 _ _ (sm _ _ e)
        · rw [upd_same, List.replicate_succ', List.map_append]; rfl
      · refine ⟨D2, List.replicate ys.length true, rfl, .of z.2, ?_⟩
        have e : (List.replicate ys.length true).all id = true := by simp
        rw [e]
        exact q _ z.1
end
end K41

set_option Elab.async false
set_option linter.all false
set_option maxRecDepth 100000
set_option exponentiation.threshold 20000
namespace K41
open PySem PySem.Spec PyProof.Rows L2 Ly Mt
section
variable {P : Program} {w : World} {K : PySem.W.Frag} {mg : Str → Option Value} {base : Heap}

abbrev s__law_matrix : Stmt := topS 29
theorem sc__law_matrix : FnScope ["cup", "many", "size", "great", "turn", "k"] ["cup", "many", "size", "great"] (defScope s__law_matrix) := ⟨rfl, rfl, rfl, by decide +kernel, rfl, by decide +kernel, by decide +kernel⟩
/-- drawn rows -/
structure Drawn (A : List (List Rat)) (m n : Nat) : Prop where
  len : A.length = m
  rows : ∀ r ∈ A, r.length = n
  bd : ∀ r ∈ A, ∀ q ∈ r, Bd 134 3 q
def sp_matrix (K : PySem.W.Frag) : Sp := fun vs H Q _ => ∃ (c L : Addr) (g : Bool) (many size n : Nat), vs = [.ref c, .int many, .int size, .bl g] ∧ many ≤ 48 ∧ size ≤ 48 ∧ Cup H c L (n + 5 * size * many) ∧ ∀ A p H', Drawn A many size → Im K H' (.ref p) (mD A) → Cup H' c L n → But c L H H' → H p = none → Q (.ref p) H'
theorem ok__law_matrix {f : Addr} {fd : FuncData} {k : Nat} (F : Fun K "_law_matrix" "_law_matrix" s__law_matrix f fd) (T : Tx K mg){ki : Nat} (D__law_entry : Def P w K mg base ki "_law_entry" s__law_entry ["cup", "great"] (sp_entry K)) (hk : ki ≤ k) : FnOk P w K mg base CX0 (k + 1) f fd ["cup", "many", "size", "great"] (sp_matrix K) := by
  have nd := sc__law_matrix.nd
  refine F.ok sc__law_matrix (fun vs H Q E h => ?_) (fun cdv A outer s H vs Q E hr h => ?_)
  · obtain ⟨_, _, _, _, _, _, rfl, _⟩ := h
    rfl
  · obtain ⟨c, L, g, many, size, n, rfl, hm, hs, u, q⟩ := h
    refine ⟨_, (pss_one (ps_ret (pe_callTy (kcall_tuple K) (by rfl) T.m_tuple (by decide +kernel) (pa_cons (pe_lc (own := [("turn", 4)]) (g := gName 4) (tt := tYes) rfl nd (pi_range1 rfl T.m_range (pa_cons (pv 1) pa_nil)) (blkOk_by (by rfl)) (fun _ _ _ _ _ => (pg_name (i := 4) nd rfl (.inl rfl))) (fun _ _ _ _ _ => pts_nil) (fun _ _ _ _ _ => (pe_callTy (kcall_tuple K) (by rfl) T.m_tuple (by decide +kernel) (pa_cons (pe_lc (own := [("k", 5)]) (g := gName 5) (tt := tYes) rfl nd (pi_range1 rfl T.m_range (pa_cons (pv 2) pa_nil)) (blkOk_by (by rfl)) (fun _ _ _ _ _ => (pg_name (i := 5) nd rfl (.inl rfl))) (fun _ _ _ _ _ => pts_nil) (fun _ _ _ _ _ => (pe_def D__law_entry (hr.mono (by omega)) rfl (pa_cons (pv 0) (pa_cons (pv 3) pa_nil))))) pa_nil)))) pa_nil)))), ?_⟩
    refine ⟨_, rfl, many, rfl, by omega, by omega, fun D hD => ?_⟩
    have neD := u.ne hD
    refine lc_all (walk_range (lo := 0) (n := many)) (fun i H2 => ∃ As acc, Drawn As i size ∧ But c L H H2 ∧ Cup H2 c L (n + 5 * size * (many - i)) ∧ H2 D = some (.lst acc) ∧ ImAll K H2 acc (As.map vD)) ⟨[], [], ⟨rfl, fun _ h => by simp at h, fun _ h => by simp at h⟩, but_same (same_new hD), u.same (same_new hD), upd_same, .nil⟩ (fun _ _ _ _ => trivial) (fun i x H2 H3 hi z y => ?_) (fun H2 z => ?_)
    · obtain ⟨As, acc, dr, bt, u2, eD, ia⟩ := z
      obtain ⟨rfl, rfl⟩ := y
      have lacc : acc.length = i := by rw [all_len ia]; exact dr.len
      have ef : 5 * size * (many - i) = 5 * size * (many - (i + 1)) + 5 * size := by
        rw [show many - i = (many - (i + 1)) + 1 by omega, Nat.mul_succ]
      rw [ef] at u2
      refine ⟨rfl, .int size, rfl, size, rfl, by omega, by omega, fun D2 hD2 => ?_⟩
      refine lc_all (walk_range (lo := 0) (n := size)) (fun j H4 => ∃ r acc2, r.length = j ∧ (∀ q ∈ r, Bd 134 3 q) ∧ But c L H3 H4 ∧ Cup H4 c L (n + 5 * size * (many - (i + 1)) + 5 * (size - j)) ∧ H4 D2 = some (.lst acc2) ∧ ImAll K H4 acc2 (r.map rD)) ⟨[], [], rfl, fun _ h => by simp at h, but_same (same_new hD2), ?_, upd_same, .nil⟩ (fun _ _ _ _ => trivial) (fun j x H4 H5 hj z y => ?_) (fun H4 z => ?_)
      · rw [Nat.sub_zero]
        exact Cup.same (by rw [Nat.add_assoc]; exact u2) (same_new hD2)
      · obtain ⟨r, acc2, lr, br, b4, u4, eD2, ir⟩ := z
        obtain ⟨rfl, rfl⟩ := y
        have ef2 : n + 5 * size * (many - (i + 1)) + 5 * (size - j) = (n + 5 * size * (many - (i + 1)) + 5 * (size - (j + 1))) + 5 := by omega
        rw [ef2] at u4
        have ne2 := (show D2 ≠ c ∧ D2 ≠ L from u2.ne hD2)
        refine ⟨rfl, .ref c, rfl, .bl g, rfl, c, L, g, _, rfl, u4, fun qq p H6 ip bq u6 b6 np => ?_⟩
        have eD6 := b6 _ _ ne2.1 ne2.2 eD2
        have l2 : acc2.length = j := by rw [all_len ir]; exact lr
        refine ⟨acc2, eD6, small1000 (by omega), r ++ [qq], acc2 ++ [.ref p], by rw [List.length_append, lr]; rfl, fun y hy => ?_, fun b o h1 h2 e => ?_, u6.upd ne2.1 ne2.2, upd_same, ?_⟩
        · rcases List.mem_append.mp hy with h | h
          · exact br y h
          · rw [List.mem_singleton.mp h]; exact bq
        · rw [upd_ne (ne_of_none e hD2)]
          exact b6 b o h1 h2 (b4 b o h1 h2 e)
        · rw [List.map_append]
          exact (ImAll.mono ((b6.tk u4).trans (tk_lst eD6)) _ ir).snoc (Im.mono (tk_lst eD6) _ ip)
      · obtain ⟨r, acc2, lr, br, b4, u4, eD2, ir⟩ := z
        rw [Nat.sub_self, Nat.mul_zero, Nat.add_zero] at u4
        refine ⟨D2, acc2, rfl, .inl ⟨.of eD2, fun l hl => ?_⟩⟩
        have ne2 := (show D ≠ c ∧ D ≠ L from neD)
        have eD4 := b4 _ _ ne2.1 ne2.2 eD
        have eD5 : (upd H4 l (.tup acc2)) D = some (.lst acc) := by rw [upd_ne (ne_of_none eD4 hl)]; exact eD4
        refine ⟨acc, eD5, small1000 (by omega), As ++ [r], acc ++ [.ref l], ⟨by rw [List.length_append, dr.len]; rfl, fun y hy => ?_, fun y hy => ?_⟩, fun b o h1 h2 e => ?_, (u4.same (same_new hl)).upd ne2.1 ne2.2, upd_same, ?_⟩
        · rcases List.mem_append.mp hy with h | h
          · exact dr.rows y h
          · rw [List.mem_singleton.mp h]; exact lr
        · rcases List.mem_append.mp hy with h | h
          · exact dr.bd y h
          · rw [List.mem_singleton.mp h]; exact br
        · rw [upd_ne (ne_of_none e hD)]
          have h4 := b4 b o h1 h2 (bt b o h1 h2 e)
          rw [upd_ne (ne_of_none h4 hl)]; exact h4
        · rw [List.map_append]
          have t1 : TK H3 H4 := b4.tk u2
          exact (ImAll.mono ((t1.trans (tk_new hl)).trans (tk_lst eD5)) _ ia).snoc (Im.mono (tk_lst eD5) _ (.tup (.inl upd_same) (ImAll.mono (tk_new hl) _ ir)))
    · obtain ⟨As, acc, dr, bt, u2, eD, ia⟩ := z
      rw [Nat.sub_self, Nat.mul_zero, Nat.add_zero] at u2
      refine ⟨D, acc, rfl, .inl ⟨.of eD, fun l hl => ?_⟩⟩
      exact q As l _ dr (.tup (.inl upd_same) (ImAll.mono (tk_new hl) _ ia)) (u2.same (same_new hl)) (bt.trans (but_same (same_new hl))) (bt.free u2 hl)

abbrev s__law_due : Stmt := topS 30
theorem sc__law_due : FnScope ["one", "other", "size", "rows", "row", "entries", "k", "total", "line"] ["one", "other", "size"] (defScope s__law_due) := ⟨rfl, rfl, rfl, by decide +kernel, rfl, by decide +kernel, by decide +kernel⟩
def sp_due (K : PySem.W.Frag) : Sp := fun vs H Q _ => ∃ v1 v2 A B n, vs = [v1, v2, .int (n : Nat)] ∧ Im K H v1 (mD A) ∧ Im K H v2 (mD B) ∧ Fit A B n ∧ ∀ p H', Same H H' → H p = none → Im K H' (.ref p) (mD (mm n A B)) → Q (.ref p) H'
theorem ok__law_due {f : Addr} {fd : FuncData} {k : Nat} (F : Fun K "_law_due" "_law_due" s__law_due f fd) (T : Tx K mg){ki : Nat} (D__law_total : Def P w K mg base ki "_law_total" s__law_total ["ones", "others"] (sp_total K)) (D__law_ratio : Def P w K mg base ki "_law_ratio" s__law_ratio ["top", "bottom"] (sp_ratio K)) (hk : ki ≤ k) : FnOk P w K mg base CX0 (k + 1) f fd ["one", "other", "size"] (sp_due K) := by
  have nd := sc__law_due.nd
  refine F.ok sc__law_due (fun vs H Q E h => ?_) (fun cdv A outer s H vs Q E hr h => ?_)
  · obtain ⟨_, _, _, _, _, rfl, _⟩ := h
    rfl
  · obtain ⟨v1, v2, M, B, n, rfl, hv1, hv2, ft, q⟩ := h
    obtain ⟨a, xs, rfl, ha, hxs⟩ := mat_inv hv1
    obtain ⟨b, ys, rfl, hb, hys⟩ := mat_inv hv2
    have lx : xs.length = M.length := all_len hxs
    have ly : ys.length = B.length := all_len hys
    have lM := ft.lA
    have lB := ft.lB
    have ln := ft.ln
    refine ⟨_, (pss_cons (ps_set (i := 3) nd rfl (.inl rfl) (pe_lst pa_nil))
      (pss_cons (ps_for PassesOwn.never rfl (kpi_tup K (pv 0)) (pg_name (i := 4) nd rfl (.inl rfl))
        (pss_cons (ps_set (i := 5) nd rfl (.inl rfl) (pe_lst pa_nil))
        (pss_cons (ps_for PassesOwn.never rfl (pi_range1 rfl T.m_range (pa_cons (pv 2) pa_nil)) (pg_name (i := 6) nd rfl (.inr rfl))
          (pss_cons (ps_set (i := 7) nd rfl (.inl rfl) (pe_def D__law_total (hr.mono (by omega)) rfl (pa_cons (pv 4) (pa_cons (pe_lc (own := [("line", 8)]) (g := gName 8) (tt := tYes) rfl nd (kpi_tup K (pv 1)) (blkOk_by (by rfl)) (fun _ _ _ _ _ => (pg_name (i := 8) nd rfl (.inl rfl))) (fun _ _ _ _ _ => pts_nil) (fun _ _ _ _ _ => (pe_ix (kix_tup K) (pv 8) (pv 6) (fun _ _ => rfl)))) pa_nil))))
          (pss_one (ps_expr (pe_bm PySem.F.plainAttrs_list PySem.F.slot_list_append PySem.F.type_list_append mt_append (pv 5) (pa_cons (pe_def D__law_ratio (hr.mono (by omega)) rfl (pa_cons (pe_ix (kix_tup K) (pv 7) pe_int (fun _ _ => rfl)) (pa_cons (pe_ix (kix_tup K) (pv 7) pe_int (fun _ _ => rfl)) pa_nil))) pa_nil))))))
        (pss_one (ps_expr (pe_bm PySem.F.plainAttrs_list PySem.F.slot_list_append PySem.F.type_list_append mt_append (pv 3) (pa_cons (pe_callTy (kcall_tuple K) (by rfl) T.m_tuple (by decide +kernel) (pa_cons (pv 5) pa_nil)) pa_nil)))))))
      (pss_one (ps_ret (pe_callTy (kcall_tuple K) (by rfl) T.m_tuple (by decide +kernel) (pa_cons (pv 3) pa_nil)))))), ?_⟩
    refine ⟨by show 0 ≤ sizeLine; decide, fun o ho => ⟨.ref a, rfl, a, rfl, ⟨xs, (ha.mono (tk_new ho)).sq⟩, ?_⟩⟩
    refine for_it (walk_tup (xs := xs)) (fun i σ H2 => ∃ y4 y5 y6 y7 y8 acc, σ = [some (.ref a), some (.ref b), some (.int n), some (.ref o), y4, y5, y6, y7, y8] ∧ Same H H2 ∧ H2 o = some (.lst acc) ∧ ImAll K H2 acc (((mm n M B).take i).map vD)) ⟨none, none, none, none, none, [], rfl, same_new ho, upd_same, .nil⟩ (fun i σ H2 _ z => ?_) ?_ ?_
    · obtain ⟨_, _, _, _, _, _, _, sm, _⟩ := z
      exact (ha.mono (tk_same sm)).sq
    · rintro i x σ H2 H3 hi ⟨y4, y5, y6, y7, y8, acc, rfl, sm, eo, ia⟩ ⟨rfl, hx⟩
      obtain ⟨r, hr', iq⟩ := all_get hxs hx
      have mr := List.mem_of_getElem? hr'
      have hget : (mm n M B)[i]? = some (vm n r B) := by
        unfold mm; rw [List.getElem?_map, hr']; rfl
      have lacc : acc.length = i := by
        rw [all_len ia, List.length_take]; unfold mm; rw [List.length_map]; omega
      have lvm : (vm n r B).length = n := vm_length ft.rowsB
      have ir : Im K H3 x (vD r) := Im.mono (tk_same sm) _ iq
      refine ⟨by show 0 ≤ sizeLine; decide, fun e he => ⟨.int n, rfl, n, rfl, by omega, by omega, ?_⟩⟩
      refine for_it (walk_range (lo := 0) (n := n)) (fun j σ H4 => ∃ y6 y7 y8 acc2, σ = [some (.ref a), some (.ref b), some (.int n), some (.ref o), some x, some (.ref e), y6, y7, y8] ∧ Same H3 H4 ∧ H4 e = some (.lst acc2) ∧ ImAll K H4 acc2 (((vm n r B).take j).map rD)) ⟨y6, y7, y8, [], rfl, same_new he, upd_same, .nil⟩ (fun _ _ _ _ _ => trivial) ?_ ?_
      · rintro j x2 σ H4 H5 hj ⟨z6, z7, z8, acc2, rfl, sm4, ee, i2⟩ ⟨rfl, rfl⟩
        have sm5 : Same H H5 := sm.trans sm4
        have k0 : ((0 : Int) + (j : Nat)) = ((j : Nat) : Int) := by omega
        refine ⟨x, rfl, .ref b, rfl, b, rfl, ⟨ys, (hb.mono (tk_same sm5)).sq⟩, fun D hD => ?_⟩
        refine lc_all (walk_tup (xs := ys)) (fun m H6 => Same H5 H6 ∧ ∃ acc3, H6 D = some (.lst acc3) ∧ ImAll K H6 acc3 (((col B j).take m).map rD)) ⟨same_new hD, [], upd_same, .nil⟩ (fun m H6 _ z => (hb.mono (tk_same (sm5.trans z.1))).sq) (fun m x3 H6 H7 hm z y => ?_) (fun H6 z => ?_)
        · obtain ⟨sm6, acc3, eD, i3⟩ := z
          obtain ⟨rfl, hx3⟩ := y
          obtain ⟨br, hbr, ib⟩ := all_get hys hx3
          obtain ⟨c, zs, rfl, hc, hzs⟩ := vec_inv (Im.mono (tk_same (sm5.trans sm6)) _ ib)
          have lbr : br.length = n := ft.rowsB br (List.mem_of_getElem? hbr)
          have hbj : br[j]? = some (br.getD j 0) := by
            rw [List.getD_eq_getElem?_getD, List.getElem?_eq_getElem (by omega)]; rfl
          obtain ⟨vz, hvz, iz⟩ := all_at hzs hbj
          have hcol : (col B j)[m]? = some (br.getD j 0) := by
            unfold col; rw [List.getElem?_map, hbr]; rfl
          have l3 : acc3.length = m := by
            rw [all_len i3, List.length_take]; unfold col; rw [List.length_map]; omega
          refine ⟨rfl, .ref c, rfl, .int _, rfl, c, zs, _, vz, rfl, rfl, hc.sq, by rw [k0]; exact atI_nat hvz, acc3, eD, small1000 (by omega), fun y oo ey => ?_, acc3 ++ [vz], upd_same, ?_⟩
          · rw [upd_ne (ne_of_none ey hD)]; exact sm6 _ _ ey
          · exact all_snoc (ImAll.mono (tk_lst eD) _ i3) hcol (Im.mono (tk_lst eD) _ iz)
        · obtain ⟨sm6, acc3, eD, i3⟩ := z
          have lcol : (col B j).length = B.length := by unfold col; rw [List.length_map]
          rw [List.take_of_length_le (by omega)] at i3
          have bcol : ∀ y ∈ col B j, Bd 400 40 y := by
            intro y hy
            obtain ⟨br, hbr, rfl⟩ := List.mem_map.mp hy
            have lbr : br.length = n := ft.rowsB br hbr
            rw [List.getD_eq_getElem?_getD, List.getElem?_eq_getElem (by omega)]
            exact ft.bB br hbr _ (List.getElem_mem (by omega))
          have lr : r.length = B.length := ft.rowsA r mr
          have lMr : r.length ≤ 48 := by omega
          refine ⟨x, D, r, acc3, col B j, rfl, Im.mono (tk_same (sm4.trans sm6)) _ ir, eD, i3, by omega, lMr, ft.bA r mr, bcol, fun p t b2 H7 sm7 np ep b0 bb eq => ?_⟩
          have sm57 : Same H5 H7 := sm6.trans sm7
          have ee7 := sm57 _ _ ee
          have hp : SqT K H7 p [.int t, .int b2] := .of ep
          refine ⟨.ref e, rfl, .inl ⟨rfl, _, .of ee7⟩, .ref p, rfl, p, _, 0, _, rfl, rfl, hp, atI_nat (j := 0) rfl, .ref p, rfl, p, _, 1, _, rfl, rfl, hp, atI_nat (j := 1) rfl, t, b2, rfl, b0, bb, fun p2 hp2 ip2 => ?_⟩
          rw [eq] at ip2 ⊢
          have ee8 : (upd H7 p2 (.tup [.int (dot r (col B j)).num, .int ((dot r (col B j)).den : Int)])) e = some (.lst acc2) := by rw [upd_ne (ne_of_none ee7 hp2)]; exact ee7
          have l2 : acc2.length = j := by rw [all_len i2, List.length_take, lvm]; omega
          have hj2 : (vm n r B)[j]? = some (dot r (col B j)) := by
            rw [vm_as ft.rowsB, List.getElem?_map, List.getElem?_range hj]; rfl
          refine ⟨e, acc2, .ref p2, rfl, rfl, ee8, small1000 (by omega), _, _, _, acc2 ++ [.ref p2], rfl, fun y oo ey => ?_, upd_same, ?_⟩
          · rw [upd_ne (ne_of_none ey he)]
            have h7 := sm57 _ _ (sm4 _ _ ey)
            rw [upd_ne (ne_of_none h7 hp2)]; exact h7
          · exact all_snoc (ImAll.mono (((tk_same sm57).trans (tk_new hp2)).trans (tk_lst ee8)) _ i2) hj2 (Im.mono (tk_lst ee8) _ ip2)
      · rintro σ H4 ⟨z6, z7, z8, acc2, rfl, sm4, ee, i2⟩
        rw [List.take_of_length_le (by omega)] at i2
        have eo4 := sm4 _ _ eo
        refine ⟨.ref o, rfl, .inl ⟨rfl, _, .of eo4⟩, .ref e, rfl, e, acc2, rfl, .inl ⟨.of ee, fun l hl => ?_⟩⟩
        have eo5 : (upd H4 l (.tup acc2)) o = some (.lst acc) := by rw [upd_ne (ne_of_none eo4 hl)]; exact eo4
        refine ⟨o, acc, .ref l, rfl, rfl, eo5, small1000 (by omega), _, _, _, _, _, acc ++ [.ref l], rfl, fun y oo ey => ?_, upd_same, ?_⟩
        · rw [upd_ne (ne_of_none ey ho)]
          have h4 := sm4 _ _ (sm _ _ ey)
          rw [upd_ne (ne_of_none h4 hl)]; exact h4
        · exact all_snoc (ImAll.mono (((tk_same sm4).trans (tk_new hl)).trans (tk_lst eo5)) _ ia) hget (Im.mono (tk_lst eo5) _ (.tup (.inl upd_same) (ImAll.mono (tk_new hl) _ i2)))
    · rintro σ H2 ⟨y4, y5, y6, y7, y8, acc, rfl, sm, eo, ia⟩
      rw [List.take_of_length_le (by unfold mm; rw [List.length_map]; omega)] at ia
      exact ⟨.ref o, rfl, o, acc, rfl, .inl ⟨.of eo, fun l hl => q l _ (sm.trans (same_new hl)) (sm.free hl) (.tup (.inl upd_same) (ImAll.mono (tk_new hl) _ ia))⟩⟩
end
end K41

set_option Elab.async false
set_option linter.all false
set_option maxRecDepth 100000
set_option exponentiation.threshold 20000
namespace K41
open PySem PySem.Spec PyProof.Rows L2 Ly Mt
/-! ### shapes of what is drawn -/
theorem fl_lay : ∀ (d : Nat) (D : PyData), Fl d D → PyData.canLay0 D = true ∧ PyData.depth D ≤ d
  | d, .int i, _ => by simp [PyData.canLay0, PyData.depth]
  | 0, .tuple ds, h => by cases h
  | d + 1, .tuple ds, h => by
    cases h with
    | tup _ _ hl hx =>
      have key : ∀ l : List PyData, (∀ x ∈ l, Fl d x) → PyData.canLayAll0 l = true ∧ PyData.depthAll l ≤ d := by
        intro l
        induction l with
        | nil => intro _; simp [PyData.canLayAll0, PyData.depthAll]
        | cons x r ih =>
          intro hl
          have h1 := fl_lay d x (hl x (List.mem_cons_self ..))
          have h2 := ih (fun y hy => hl y (List.mem_cons_of_mem _ hy))
          simp only [PyData.canLayAll0, PyData.depthAll, Bool.and_eq_true]
          exact ⟨⟨h1.1, h2.1⟩, by omega⟩
      have h3 := key ds hx
      simp only [PyData.canLay0, PyData.depth]
      exact ⟨h3.1, by omega⟩
  | d, .none, h => by cases h
  | d, .bool _, h => by cases h
  | d, .str _, h => by cases h
  | d, .list _, h => by cases h
  | d, .dict _, h => by cases h
theorem fl_shaped {d : Nat} {D : PyData} (h : Fl d D) (hd : d ≤ 60) : SeqAt.shaped D = true := by
  have := fl_lay d D h
  show (PyData.canLay0 D && decide (PyData.depth D ≤ 64)) = true
  rw [Bool.and_eq_true]
  exact ⟨this.1, decide_eq_true (by omega)⟩
theorem eqv_mat_nil (A : List (List Rat)) : PyData.eqv (mD A) (.tuple []) = A.isEmpty := by
  cases A <;> simp [mD, PyData.eqv, PyData.eqvAll]
theorem shaped_nil : SeqAt.shaped (.tuple []) = true := fl_shaped (.tup 0 [] (by decide) (fun _ h => by simp at h)) (by decide)
theorem Drawn.fit {A B : List (List Rat)} {m n p : Nat} (a : Drawn A m n) (b : Drawn B n p) (hm : m ≤ 48) (hn : n ≤ 48) (hp : p ≤ 48) : Fit A B p :=
  ⟨fun r hr => by rw [a.rows r hr, b.len], b.rows, by rw [a.len]; exact hm, by rw [b.len]; exact hn, hp, fun r hr y hy => (a.bd r hr y hy).mono (by decide) (by decide), fun r hr y hy => (b.bd r hr y hy).mono (by decide) (by decide)⟩
theorem width_of {B : List (List Rat)} {m n : Nat} (b : Drawn B m n) (h : B ≠ []) : width B = n := by
  cases B with
  | nil => exact absurd rfl h
  | cons r rs => exact b.rows r (List.mem_cons_self ..)
theorem Drawn.fl {A : List (List Rat)} {m n : Nat} (a : Drawn A m n) (hm : m ≤ 48) (hn : n ≤ 48) : Fl 3 (mD A) :=
  fl_mat (by rw [a.len]; omega) fun r hr => by rw [a.rows r hr]; omega
theorem mm_fl {A B : List (List Rat)} {n : Nat} (f : Fit A B n) : Fl 3 (mD (mm n A B)) := by
  have h1 := f.lA
  have h2 := f.ln
  refine fl_mat (by unfold mm; rw [List.length_map]; omega) fun r hr => ?_
  obtain ⟨r', _, rfl⟩ := List.mem_map.mp hr
  rw [vm_length f.rowsB]; omega
/-- of few small ones the product is small -/
theorem bd_few {A B : List (List Rat)} {m n p : Nat} (a : Drawn A m n) (b : Drawn B n p) (hn : n ≤ 5) : ∀ r ∈ mm p A B, ∀ q ∈ r, Bd 400 40 q := by
  intro r hr q hq
  obtain ⟨r', hr', rfl⟩ := List.mem_map.mp hr
  rw [vm_as b.rows] at hq
  obtain ⟨k, hk, rfl⟩ := List.mem_map.mp hq
  have hk' := List.mem_range.mp hk
  refine (bd_dot (N := 268) (M := 6) (i := 5) (fun x hx y hy => ?_) (by rw [a.rows r' hr']; exact hn)).mono (by decide) (by decide)
  obtain ⟨b', hb, rfl⟩ := List.mem_map.mp hy
  have e : b'.getD k 0 ∈ b' := by
    have hkb : k < b'.length := by rw [b.rows b' hb]; exact hk'
    rw [List.getD_eq_getElem?_getD, List.getElem?_eq_getElem hkb]
    exact List.getElem_mem hkb
  exact (Bd.mul (a.bd r' hr' x hx) (b.bd b' hb _ e)).mono (by decide) (by decide)
theorem mm_nil (n m : Nat) (B : List (List Rat)) : mm n [] B = mm m [] B := rfl
theorem width_mm {A B : List (List Rat)} {n : Nat} (h : ∀ b ∈ B, b.length = n) (hA : A ≠ []) : width (mm n A B) = n := by
  cases A with
  | nil => exact absurd rfl hA
  | cons r rs => exact vm_length h
theorem ne_of_isEmpty {α : Type} {l : List α} (h : l.isEmpty = false) : l ≠ [] := by
  intro e; subst e; simp at h
section
variable {P : Program} {w : World} {K : PySem.W.Frag} {mg : Str → Option Value} {base : Heap}
theorem kb_times_matrix_other_one : ∀ f fd, Fun K "times_matrix" "times_matrix" s_times_matrix f fd → KBinds K fd ["one", "other"] ["other", "one"] (fun us ws => match us, ws with | [], [x, y] => [y, x] | _, _ => []) (fun us ws => match us, ws with | [], [x, y] => [y, x] | _, _ => []) := by
  intro f fd U
  obtain ⟨oc, od, kV, doc, pm, an, cdv, ct, osl, rfl, lk, hcd⟩ := U.ex
  refine ⟨fun s us ws X hl => ?_, fun {vs us zs ws} r rz => ?_⟩
  · match us, ws, hl with
    | [], [x, y], _ => exact .of_eq rfl
    | [], [], h => simp at h
    | [], [_], h => simp at h
    | [], _ :: _ :: _ :: _, h => simp at h
    | _ :: _, _, h => simp at h
  · cases r with
    | cons a b => exact .nil
    | nil =>
      cases rz with
      | nil => exact .nil
      | cons a b =>
        cases b with
        | nil => exact .nil
        | cons a2 b2 =>
          cases b2 with
          | nil => exact .cons a2 (.cons a .nil)
          | cons _ _ => exact .nil
end
end K41

set_option Elab.async false
set_option linter.all false
set_option maxRecDepth 100000
set_option exponentiation.threshold 20000
namespace K41
open PySem PySem.Spec PyProof.Rows L2 Ly Mt
section
variable {P : Program} {w : World} {K : PySem.W.Frag} {mg : Str → Option Value} {base : Heap}
abbrev s_law : Stmt := topS 31
theorem sc_law : FnScope ["script", "cup", "turn", "great", "sizes", "one", "two", "three", "due", "left", "size", "flat", "tall", "k", "entry"] ["script"] (defScope s_law) := ⟨rfl, rfl, rfl, by decide +kernel, rfl, by decide +kernel, by decide +kernel⟩
def sp_law (K : PySem.W.Frag) : Sp := fun vs H Q _ => ∃ (a : Addr) (ns : List Int), vs = [.ref a] ∧ SqL K H a (ns.map V.int) ∧ ns.length ≤ 63 ∧ ∀ H', Q (.bl true) H'
set_option maxHeartbeats 4000000 in
theorem ok_law {f : Addr} {fd : FuncData} {k : Nat} (F : Fun K "law" "law" s_law f fd) (T : Tx K mg){k1 k2 k3 k4 k5 k6 : Nat} (D__law_cup : Def P w K mg base k1 "_law_cup" s__law_cup ["script"] (sp_cup K)) (D__law_sip : Def P w K mg base k2 "_law_sip" s__law_sip ["cup", "many"] sp_sip) (D__law_matrix : Def P w K mg base k3 "_law_matrix" s__law_matrix ["cup", "many", "size", "great"] (sp_matrix K)) (D__law_due : Def P w K mg base k4 "_law_due" s__law_due ["one", "other", "size"] (sp_due K)) (D__law_same : Def P w K mg base k5 "_law_same" s__law_same ["found", "due"] (sp_same K 4)) (D_times_matrix : Def P w K mg base k6 "times_matrix" s_times_matrix ["one", "other"] (sp_times_matrix K)) (e1 : k1 ≤ k) (e2 : k2 ≤ k) (e3 : k3 ≤ k) (e4 : k4 ≤ k) (e5 : k5 ≤ k) (e6 : k6 ≤ k) : FnOk P w K mg base CX0 (k + 1) f fd ["script"] (sp_law K) := by
  have nd := sc_law.nd
  refine F.ok sc_law (fun vs H Q E h => ?_) (fun cdv A outer s H vs Q E hr h => ?_)
  · obtain ⟨_, _, rfl, _⟩ := h
    rfl
  · obtain ⟨a, ns, rfl, hS, hl, q⟩ := h
    refine ⟨_, (pss_cons (ps_set (i := 1) nd rfl (.inr rfl) (pe_def D__law_cup (hr.mono (by omega)) rfl (pa_cons (pv 0) pa_nil)))
      (pss_cons (ps_for PassesOwn.never rfl (pi_range1 rfl T.m_range (pa_cons pe_int pa_nil)) (pg_name (i := 2) nd rfl (.inl rfl))
        (pss_cons (ps_set (i := 3) nd rfl (.inl rfl) (pe_cmpR op_eq (pe_def D__law_sip (hr.mono (by omega)) rfl (pa_cons (pv 1) (pa_cons pe_int pa_nil))) pe_int (nomark _)))
        (pss_cons (ps_setLc (i := 4) (own := [("k", 13)]) (g := gName 13) (tt := tYes) rfl nd rfl rfl (sw_true rfl rfl rfl (by decide +kernel)) (pi_range1 rfl T.m_range (pa_cons pe_int pa_nil)) (blkOk_by (by rfl)) (fun _ _ _ _ _ => (pg_name (i := 13) nd rfl (.inl rfl))) (fun _ _ _ _ _ => pts_nil) (fun _ _ _ _ _ => (pe_def D__law_sip (hr.mono (by omega)) rfl (pa_cons (pv 1) (pa_cons pe_int pa_nil)))))
        (pss_cons (ps_par (i := 5) (j := 6) (by rfl) nd rfl rfl (by decide) rfl rfl (pa_cons (pe_def D__law_matrix (hr.mono (by omega)) rfl (pa_cons (pv 1) (pa_cons (pe_ix (kix_list K) (pv 4) pe_int (fun _ _ => rfl)) (pa_cons (pe_ix (kix_list K) (pv 4) pe_int (fun _ _ => rfl)) (pa_cons (pv 3) pa_nil))))) (pa_cons (pe_def D__law_matrix (hr.mono (by omega)) rfl (pa_cons (pv 1) (pa_cons (pe_ix (kix_list K) (pv 4) pe_int (fun _ _ => rfl)) (pa_cons (pe_ix (kix_list K) (pv 4) pe_int (fun _ _ => rfl)) (pa_cons (pv 3) pa_nil))))) pa_nil)) (by rfl))
        (pss_cons (ps_set (i := 7) nd rfl (.inl rfl) (pe_def D__law_matrix (hr.mono (by omega)) rfl (pa_cons (pv 1) (pa_cons (pe_ix (kix_list K) (pv 4) pe_int (fun _ _ => rfl)) (pa_cons (pe_ix (kix_list K) (pv 4) pe_int (fun _ _ => rfl)) (pa_cons (pv 3) pa_nil))))))
        (C8.pss_cut (ps_if (pt_cmpR (kop_eqD K hr.units) (pv 6) (pe_tup pa_nil) (nomark _))
          (pss_one (ps_asg pe_int (pg_sub (pv 4) pe_int set_list)))
          pss_nil)
        (C8.pss_cut (ps_if (pt_cmpR (kop_eqD K hr.units) (pv 5) (pe_tup pa_nil) (nomark _))
          (pss_one (ps_set (i := 6) nd rfl (.inl rfl) (pe_def D__law_matrix (hr.mono (by omega)) rfl (pa_cons (pv 1) (pa_cons (pe_def D__law_sip (hr.mono (by omega)) rfl (pa_cons (pv 1) (pa_cons pe_int pa_nil))) (pa_cons (pe_ix (kix_list K) (pv 4) pe_int (fun _ _ => rfl)) (pa_cons (pv 3) pa_nil)))))))
          pss_nil)
        (pss_cons (ps_set (i := 8) nd rfl (.inl rfl) (pe_def D__law_due (hr.mono (by omega)) rfl (pa_cons (pv 5) (pa_cons (pv 6) (pa_cons (pe_ix (kix_list K) (pv 4) pe_int (fun _ _ => rfl)) pa_nil)))))
        (pss_cons (ps_if (PW.pt (pw_or (pt_not (pt_val (pe_def D__law_same (hr.mono (by omega)) rfl (pa_cons (pe_def D_times_matrix (hr.mono (by omega)) rfl (pa_cons (pv 5) (pa_cons (pv 6) pa_nil))) (pa_cons (pv 8) pa_nil))))) (pw_or1 (pt_not (pt_val (pe_def D__law_same (hr.mono (by omega)) rfl (pa_cons (pe_defK D_times_matrix (hr.mono (by omega)) rfl kb_times_matrix_other_one (pk_cons (pv 6) (pk_cons (pv 5) pk_nil))) (pa_cons (pv 8) pa_nil))))))))
          (pss_one (ps_ret pe_bl))
          pss_nil)
        (pss_one (ps_if (PW.pt (pw_and (pt_cmpR (kop_neD K hr.units) (pv 5) (pe_tup pa_nil) (nomark _)) (pw_and (pt_cmpR (kop_neD K hr.units) (pv 6) (pe_tup pa_nil) (nomark _)) (pw_and1 (pt_cmpR (kop_neD K hr.units) (pv 7) (pe_tup pa_nil) (nomark _))))))
          (pss_cons (ps_set (i := 9) nd rfl (.inl rfl) (pe_def D_times_matrix (hr.mono (by omega)) rfl (pa_cons (pe_def D_times_matrix (hr.mono (by omega)) rfl (pa_cons (pv 5) (pa_cons (pv 6) pa_nil))) (pa_cons (pv 7) pa_nil))))
          (pss_cons (ps_if (pt_not (pt_val (pe_def D__law_same (hr.mono (by omega)) rfl (pa_cons (pv 9) (pa_cons (pe_def D__law_due (hr.mono (by omega)) rfl (pa_cons (pv 8) (pa_cons (pv 7) (pa_cons (pe_ix (kix_list K) (pv 4) pe_int (fun _ _ => rfl)) pa_nil)))) pa_nil)))))
            (pss_one (ps_ret pe_bl))
            pss_nil)
          (pss_one (ps_if (pt_not (pt_val (pe_def D__law_same (hr.mono (by omega)) rfl (pa_cons (pe_def D_times_matrix (hr.mono (by omega)) rfl (pa_cons (pv 5) (pa_cons (pe_def D_times_matrix (hr.mono (by omega)) rfl (pa_cons (pv 6) (pa_cons (pv 7) pa_nil))) pa_nil))) (pa_cons (pv 9) pa_nil)))))
            (pss_one (ps_ret pe_bl))
            pss_nil))))
          pss_nil)))))))))))
      (C8.pss_cut (ps_if (pt_cmpR op_eq (pe_def D__law_sip (hr.mono (by omega)) rfl (pa_cons (pv 1) (pa_cons pe_int pa_nil))) pe_int (nomark _))
        (pss_cons (ps_setLc (i := 4) (own := [("k", 13)]) (g := gName 13) (tt := tYes) rfl nd rfl rfl (sw_true rfl rfl rfl (by decide +kernel)) (pi_range1 rfl T.m_range (pa_cons pe_int pa_nil)) (blkOk_by (by rfl)) (fun _ _ _ _ _ => (pg_name (i := 13) nd rfl (.inl rfl))) (fun _ _ _ _ _ => pts_nil) (fun _ _ _ _ _ => (pe_op op_add pe_int (pe_def D__law_sip (hr.mono (by omega)) rfl (pa_cons (pv 1) (pa_cons pe_int pa_nil))))))
        (pss_cons (ps_par (i := 5) (j := 6) (by rfl) nd rfl rfl (by decide) rfl rfl (pa_cons (pe_def D__law_matrix (hr.mono (by omega)) rfl (pa_cons (pv 1) (pa_cons (pe_ix (kix_list K) (pv 4) pe_int (fun _ _ => rfl)) (pa_cons (pe_ix (kix_list K) (pv 4) pe_int (fun _ _ => rfl)) (pa_cons pe_bl pa_nil))))) (pa_cons (pe_def D__law_matrix (hr.mono (by omega)) rfl (pa_cons (pv 1) (pa_cons (pe_ix (kix_list K) (pv 4) pe_int (fun _ _ => rfl)) (pa_cons (pe_ix (kix_list K) (pv 4) pe_int (fun _ _ => rfl)) (pa_cons pe_bl pa_nil))))) pa_nil)) (by rfl))
        (pss_one (ps_if (pt_not (pt_val (pe_def D__law_same (hr.mono (by omega)) rfl (pa_cons (pe_def D_times_matrix (hr.mono (by omega)) rfl (pa_cons (pv 5) (pa_cons (pv 6) pa_nil))) (pa_cons (pe_def D__law_due (hr.mono (by omega)) rfl (pa_cons (pv 5) (pa_cons (pv 6) (pa_cons (pe_ix (kix_list K) (pv 4) pe_int (fun _ _ => rfl)) pa_nil)))) pa_nil)))))
          (pss_one (ps_ret pe_bl))
          pss_nil))))
        pss_nil)
      (pss_cons (ps_set (i := 10) nd rfl (.inl rfl) (pe_op op_sub pe_int (pe_def D__law_sip (hr.mono (by omega)) rfl (pa_cons (pv 1) (pa_cons pe_int pa_nil)))))
      (pss_cons (ps_set (i := 11) nd rfl (.inl rfl) (pe_def D__law_matrix (hr.mono (by omega)) rfl (pa_cons (pv 1) (pa_cons pe_int (pa_cons (pv 10) (pa_cons pe_bl pa_nil))))))
      (pss_cons (ps_set (i := 12) nd rfl (.inl rfl) (pe_callTy (kcall_tuple K) (by rfl) T.m_tuple (by decide +kernel) (pa_cons (pe_lc (own := [("entry", 14)]) (g := gName 14) (tt := tYes) rfl nd (kpi_tup K (pe_ix (kix_tup K) (pe_def D__law_matrix (hr.mono (by omega)) rfl (pa_cons (pv 1) (pa_cons pe_int (pa_cons (pv 10) (pa_cons pe_bl pa_nil))))) pe_int (fun _ _ => rfl))) (blkOk_by (by rfl)) (fun _ _ _ _ _ => (pg_name (i := 14) nd rfl (.inl rfl))) (fun _ _ _ _ _ => pts_nil) (fun _ _ _ _ _ => (pe_tup (pa_cons (pv 14) pa_nil)))) pa_nil)))
      (pss_cons (ps_if (pt_not (pt_val (pe_def D__law_same (hr.mono (by omega)) rfl (pa_cons (pe_def D_times_matrix (hr.mono (by omega)) rfl (pa_cons (pv 11) (pa_cons (pv 12) pa_nil))) (pa_cons (pe_def D__law_due (hr.mono (by omega)) rfl (pa_cons (pv 11) (pa_cons (pv 12) (pa_cons pe_int pa_nil)))) pa_nil)))))
        (pss_one (ps_ret pe_bl))
        pss_nil)
      (C8.pss_cut (ps_if (PW.pt (pw_and (pt_cmpR op_eq (pe_def D__law_sip (hr.mono (by omega)) rfl (pa_cons (pv 1) (pa_cons pe_int pa_nil))) pe_int (nomark _)) (pw_and1 (pt_not (pt_val (pe_def D__law_same (hr.mono (by omega)) rfl (pa_cons (pe_def D_times_matrix (hr.mono (by omega)) rfl (pa_cons (pv 12) (pa_cons (pv 11) pa_nil))) (pa_cons (pe_def D__law_due (hr.mono (by omega)) rfl (pa_cons (pv 12) (pa_cons (pv 11) (pa_cons (pv 10) pa_nil)))) pa_nil))))))))
        (pss_one (ps_ret pe_bl))
        pss_nil)
      (pss_one (ps_ret (pe_and (pe_def D__law_same (hr.mono (by omega)) rfl (pa_cons (pe_def D_times_matrix (hr.mono (by omega)) rfl (pa_cons (pe_tup pa_nil) (pa_cons (pv 11) pa_nil))) (pa_cons (pe_tup pa_nil) pa_nil))) (pe_one (pe_def D__law_same (hr.mono (by omega)) rfl (pa_cons (pe_def D_times_matrix (hr.mono (by omega)) rfl (pa_cons (pe_tup (pa_cons (pe_tup pa_nil) pa_nil)) (pa_cons (pe_tup pa_nil) pa_nil))) (pa_cons (pe_tup (pa_cons (pe_tup pa_nil) pa_nil)) pa_nil))))))))))))))), ?_⟩
    refine ⟨.ref a, rfl, a, ns, rfl, hS, hl, fun c L H1 sm hc0 hL0 u => ?_⟩
    refine ⟨3, rfl, by decide, by decide, ?_⟩
    refine for_it (walk_range (lo := 0) (n := 3)) (fun i σ H2 => ∃ y2 y3 y4 y5 y6 y7 y8 y9 y10 y11 y12 y13 y14, σ = [some (.ref a), some (.ref c), y2, y3, y4, y5, y6, y7, y8, y9, y10, y11, y12, y13, y14] ∧ Cup H2 c L (100000 * (10 - i))) ⟨none, none, none, none, none, none, none, none, none, none, none, none, none, rfl, u.less (by decide)⟩ (fun _ _ _ _ _ => trivial) ?_ ?_
    · rintro i x σ H2 H3 hi ⟨y2, y3, y4, y5, y6, y7, y8, y9, y10, y11, y12, y13, y14, rfl, u2⟩ ⟨rfl, rfl⟩
      have ef : 100000 * (10 - i) = 100000 * (10 - (i + 1)) + 100000 := by omega
      rw [ef] at u2
      generalize 100000 * (10 - (i + 1)) = R at *
      refine ⟨.ref c, rfl, c, L, 4, R + 99999, rfl, u2, by decide, by decide, fun d H4 d0 d4 u4 b4 => ⟨rfl, ?_⟩⟩
      generalize decide (V.int d = V.int 0) = g
      refine ⟨4, rfl, by decide, by decide, fun D hD => ?_⟩
      have neD := u4.ne hD
      refine lc_all (walk_range (lo := 0) (n := 4)) (fun j H5 => ∃ ss : List Int, ss.length = j ∧ (∀ s ∈ ss, 0 ≤ s ∧ s < 6) ∧ Cup H5 c L (R + 99900 + (4 - j)) ∧ H5 D = some (.lst (ss.map V.int))) ⟨[], rfl, fun _ h => by simp at h, (u4.less (by omega)).same (same_new hD), upd_same⟩ (fun _ _ _ _ => trivial) (fun j x H5 H6 hj z y => ?_) (fun H5 z => ?_)
      · obtain ⟨ss, ls, bs, u5, eD⟩ := z
        obtain ⟨rfl, rfl⟩ := y
        rw [show R + 99900 + (4 - j) = (R + 99900 + (4 - (j + 1))) + 1 by omega] at u5
        refine ⟨rfl, .ref c, rfl, c, L, 6, _, rfl, u5, by decide, by decide, fun d2 H7 e0 e6 u7 b7 => ⟨_, b7 D _ neD.1 neD.2 eD, ?_, ss ++ [d2], by rw [List.length_append, ls]; rfl, fun s hs => ?_, u7.upd neD.1 neD.2, ?_⟩⟩
        · rw [List.length_map]; exact small1000 (by omega)
        · rcases List.mem_append.mp hs with h | h
          · exact bs s h
          · rw [List.mem_singleton.mp h]; exact ⟨e0, e6⟩
        · rw [upd_same, List.map_append]; rfl
      · obtain ⟨ss, ls, bs, u5, eD⟩ := z
        obtain ⟨s0, s1, s2, s3, rfl⟩ : ∃ s0 s1 s2 s3, ss = [s0, s1, s2, s3] := by
          match ss, ls with
          | [w, x, y, z], _ => exact ⟨w, x, y, z, rfl⟩
        have c0 := bs s0 (by simp)
        have c1 := bs s1 (by simp)
        have c2 := bs s2 (by simp)
        have c3 := bs s3 (by simp)
        obtain ⟨n0, rfl⟩ : ∃ n : Nat, s0 = n := ⟨s0.toNat, by omega⟩
        obtain ⟨n1, rfl⟩ : ∃ n : Nat, s1 = n := ⟨s1.toNat, by omega⟩
        obtain ⟨n2, rfl⟩ : ∃ n : Nat, s2 = n := ⟨s2.toNat, by omega⟩
        obtain ⟨n3, rfl⟩ : ∃ n : Nat, s3 = n := ⟨s3.toNat, by omega⟩
        have fu : ∀ p q : Nat, p ≤ 5 → q ≤ 5 → 5 * p * q ≤ 125 := fun p q hp hq => Nat.mul_le_mul (Nat.mul_le_mul (Nat.le_refl 5) hp) hq
        have f10 := fu n1 n0 (by omega) (by omega)
        have f21 := fu n2 n1 (by omega) (by omega)
        have f32 := fu n3 n2 (by omega) (by omega)
        refine ⟨.ref c, rfl, .ref D, rfl, D, _, 0, _, rfl, rfl, .of eD, atI_nat (j := 0) rfl, .ref D, rfl, D, _, 1, _, rfl, rfl, .of eD, atI_nat (j := 1) rfl, .bl g, rfl, c, L, g, n0, n1, R + 99000, rfl, by omega, by omega, u5.less (by omega), fun A1 p1 H6 dA iA u6 b6 np1 => ?_⟩
        have eD6 := b6 D _ neD.1 neD.2 eD
        refine ⟨.ref c, rfl, .ref D, rfl, D, _, 1, _, rfl, rfl, .of eD6, atI_nat (j := 1) rfl, .ref D, rfl, D, _, 2, _, rfl, rfl, .of eD6, atI_nat (j := 2) rfl, .bl g, rfl, c, L, g, n1, n2, R + 98000, rfl, by omega, by omega, u6.less (by omega), fun B1 p2 H7 dB iB u7 b7 np2 => ⟨_, _, rfl, ?_⟩⟩
        have eD7 := b7 D _ neD.1 neD.2 eD6
        replace iA := Im.mono (b7.tk u6) _ iA
        refine ⟨.ref c, rfl, .ref D, rfl, D, _, 2, _, rfl, rfl, .of eD7, atI_nat (j := 2) rfl, .ref D, rfl, D, _, 3, _, rfl, rfl, .of eD7, atI_nat (j := 3) rfl, .bl g, rfl, c, L, g, n2, n3, R + 97000, rfl, by omega, by omega, u7.less (by omega), fun C1 p3 H8 dC iC u8 b8 np3 => ?_⟩
        have eD8 := b8 D _ neD.1 neD.2 eD7
        replace iA := Im.mono (b8.tk u7) _ iA
        replace iB := Im.mono (b8.tk u7) _ iB
        clear eD eD6 eD7 bs
        -- if two == ()
        refine ⟨fun σ' H' => σ' = [some (.ref a), some (.ref c), some (.int (0 + (i : Nat))), some (.bl g), some (.ref D), some (.ref p1), some (.ref p2), some (.ref p3), y8, y9, y10, y11, y12, y13, y14] ∧ Cup H' c L (R + 97000) ∧ H' D = some (.lst [.int n0, .int n1, .int (width B1 : Nat), .int n3]) ∧ Im K H' (.ref p1) (mD A1) ∧ Im K H' (.ref p2) (mD B1) ∧ Im K H' (.ref p3) (mD C1), ?_, ?_⟩
        · refine ⟨.ref p2, rfl, by show 0 ≤ sizeLine; decide, fun e he => ⟨_, _, Im.dp _ (Im.mono (tk_new he) _ iB), Im.dp _ (.tup (.inl upd_same) .nil), fl_shaped (dB.fl (by omega) (by omega)) (by decide), shaped_nil, ?_⟩⟩
          have eD9 : (upd H8 e (.tup [])) D = _ := (same_new (o := .tup []) he) _ _ eD8
          have u9 := u8.same (same_new (o := .tup []) he)
          have t9 : TK H8 (upd H8 e (.tup [])) := tk_new he
          rw [eqv_mat_nil]
          refine ⟨_, rfl, ?_⟩
          cases hB : B1.isEmpty with
          | true =>
            have hB0 : B1 = [] := List.isEmpty_iff.mp hB
            have t10 := t9.trans (tk_lst (o := .lst [.int n0, .int n1, .int 0, .int n3]) eD9)
            refine iteT ⟨.ref D, rfl, D, _, 2, 2, rfl, rfl, eD9, rfl, rfl, u9.upd neD.1 neD.2, ?_, Im.mono t10 _ iA, Im.mono t10 _ iB, Im.mono t10 _ iC⟩
            rw [upd_same, hB0]; rfl
          | false =>
            refine iteF ⟨rfl, u9, ?_, Im.mono t9 _ iA, Im.mono t9 _ iB, Im.mono t9 _ iC⟩
            rw [width_of dB (ne_of_isEmpty hB)]; exact eD9
        · rintro σ' H' ⟨rfl, u10, eD10, iA10, iB10, iC10⟩
          have wB : width B1 ≤ 5 := by
            by_cases h : B1 = []
            · rw [h]; decide
            · rw [width_of dB h]; omega
          -- if one == ()
          refine ⟨fun σ' H' => ∃ p4 B2, σ' = [some (.ref a), some (.ref c), some (.int (0 + (i : Nat))), some (.bl g), some (.ref D), some (.ref p1), some (.ref p4), some (.ref p3), y8, y9, y10, y11, y12, y13, y14] ∧ Cup H' c L (R + 95000) ∧ H' D = some (.lst [.int n0, .int n1, .int (width B1 : Nat), .int n3]) ∧ Im K H' (.ref p1) (mD A1) ∧ Im K H' (.ref p4) (mD B2) ∧ Im K H' (.ref p3) (mD C1) ∧ Fit A1 B2 (width B1) ∧ Fit A1 B2 (width B2) ∧ mm (width B1) A1 B2 = mm (width B2) A1 B2 ∧ Fl 3 (mD B2) ∧ (A1 ≠ [] → B2 = B1), ?_, ?_⟩
          · refine ⟨.ref p1, rfl, by show 0 ≤ sizeLine; decide, fun e he => ⟨_, _, Im.dp _ (Im.mono (tk_new he) _ iA10), Im.dp _ (.tup (.inl upd_same) .nil), fl_shaped (dA.fl (by omega) (by omega)) (by decide), shaped_nil, ?_⟩⟩
            have s9 : Same H' (upd H' e (.tup [])) := same_new he
            rw [eqv_mat_nil]
            refine ⟨_, rfl, ?_⟩
            cases hA : A1.isEmpty with
            | true =>
              have hA0 : A1 = [] := List.isEmpty_iff.mp hA
              refine iteT ⟨.ref c, rfl, .ref c, rfl, c, L, 4, R + 96999, rfl, u10.same s9, by decide, by decide, fun d4 H11 d40 d41 u11 b11 => ?_⟩
              obtain ⟨m4, rfl⟩ : ∃ m : Nat, d4 = m := ⟨d4.toNat, by omega⟩
              have eD11 := b11 D _ neD.1 neD.2 (s9 _ _ eD10)
              have fx : 5 * width B1 * m4 ≤ 125 := fu _ _ wB (by omega)
              refine ⟨.ref D, rfl, D, _, 2, _, rfl, rfl, .of eD11, atI_nat (j := 2) rfl, .bl g, rfl, c, L, g, m4, width B1, R + 95000, rfl, by omega, by omega, u11.less (by omega), fun B2 p4 H12 dB2 iB2 u12 b12 np4 => ?_⟩
              have t12 : TK H' H12 := ((tk_same s9).trans (b11.tk (u10.same s9))).trans (b12.tk u11)
              subst hA0
              have ftn : ∀ n, (∀ r ∈ B2, r.length = n) → n ≤ 48 → Fit [] B2 n := fun n h1 h2 => ⟨fun r hr => by simp at hr, h1, by decide, by rw [dB2.len]; omega, h2, fun r hr => by simp at hr, fun r hr y hy => (dB2.bd r hr y hy).mono (by decide) (by decide)⟩
              refine ⟨p4, B2, rfl, u12, b12 D _ neD.1 neD.2 eD11, Im.mono t12 _ iA10, iB2, Im.mono t12 _ iC10, ftn _ dB2.rows (by omega), ?_, rfl, dB2.fl (by omega) (by omega), fun h => absurd rfl h⟩
              by_cases hB2 : B2 = []
              · subst hB2
                exact ftn _ (fun r hr => by simp at hr) (by decide)
              · rw [width_of dB2 hB2]
                exact ftn _ dB2.rows (by omega)
            | false =>
              have ft : Fit A1 B1 (width B1) := by
                by_cases hB1 : B1 = []
                · subst hB1
                  exact ⟨fun r hr => by rw [dA.rows r hr, dB.len], fun r hr => by simp at hr, by rw [dA.len]; omega, by decide, by decide, fun r hr y hy => (dA.bd r hr y hy).mono (by decide) (by decide), fun r hr => by simp at hr⟩
                · rw [width_of dB hB1]
                  exact dA.fit dB (by omega) (by omega) (by omega)
              exact iteF ⟨p2, B1, rfl, (u10.same s9).less (by omega), s9 _ _ eD10, Im.mono (tk_same s9) _ iA10, Im.mono (tk_same s9) _ iB10, Im.mono (tk_same s9) _ iC10, ft, ft, rfl, dB.fl (by omega) (by omega), fun _ => rfl⟩
          · rintro σ' H11 ⟨p4, B2, rfl, u11, eD11, iA11, iB11, iC11, ft1, ft2, em, flB, hAB⟩
            clear iA10 iB10 iC10 eD10 u10 eD8 u8 iA iB iC
            refine ⟨.ref p1, rfl, .ref p4, rfl, .ref D, rfl, D, _, 2, _, rfl, rfl, .of eD11, atI_nat (j := 2) rfl, .ref p1, .ref p4, A1, B2, width B1, rfl, iA11, iB11, ft1, fun pd H12 s12 npd id12 => ?_⟩
            rw [em] at id12
            have flP : Fl 3 (mD (mm (width B2) A1 B2)) := mm_fl ft2
            have t12 := tk_same s12
            refine ⟨.ref p1, rfl, .ref p4, rfl, .ref p1, .ref p4, A1, B2, rfl, Im.mono t12 _ iA11, Im.mono t12 _ iB11, ft2, fun p5 H13 s13 np5 i5 => ?_⟩
            refine ⟨.ref pd, rfl, .ref p5, .ref pd, _, rfl, i5, Im.mono (tk_same s13) _ id12, flP, fun H14 s14 => ⟨true, rfl, iteF ?_⟩⟩
            have s1214 := s13.trans s14
            have t14 := t12.trans (tk_same s1214)
            refine ⟨.ref p4, rfl, .ref p1, rfl, .ref p1, .ref p4, A1, B2, rfl, Im.mono t14 _ iA11, Im.mono t14 _ iB11, ft2, fun p6 H15 s15 np6 i6 => ?_⟩
            refine ⟨.ref pd, rfl, .ref p6, .ref pd, _, rfl, i6, Im.mono (tk_same (s1214.trans s15)) _ id12, flP, fun H16 s16 => ⟨true, rfl, iteF ?_⟩⟩
            have s1216 := (s1214.trans s15).trans s16
            have s1116 := s12.trans s1216
            have t16 := tk_same s1116
            replace iA11 := Im.mono t16 _ iA11
            replace iB11 := Im.mono t16 _ iB11
            replace iC11 := Im.mono t16 _ iC11
            replace id12 := Im.mono (tk_same s1216) _ id12
            replace u11 := u11.same s1116
            replace eD11 := s1116 _ _ eD11
            clear t16 t14 t12 s1116 s1216 s1214 i5 i6
            -- if one != () and two != () and three != ()
            refine ⟨.ref p1, rfl, by show 0 ≤ sizeLine; decide, fun e he => ⟨_, _, Im.dp _ (Im.mono (tk_new he) _ iA11), Im.dp _ (.tup (.inl upd_same) .nil), fl_shaped (dA.fl (by omega) (by omega)) (by decide), shaped_nil, ?_⟩⟩
            have s17 : Same H16 (upd H16 e (.tup [])) := same_new he
            rw [eqv_mat_nil]
            generalize upd H16 e (.tup []) = H17 at *
            refine ⟨_, rfl, ?_⟩
            cases hA : A1.isEmpty with
            | true => exact iteF (iteF ⟨_, _, _, _, _, _, _, _, _, _, _, _, _, rfl, (u11.same s17).less (by omega)⟩)
            | false =>
            have hA0 := ne_of_isEmpty hA
            have eB := hAB hA0
            subst eB
            refine iteT ⟨.ref p4, rfl, by show 0 ≤ sizeLine; decide, fun e2 he2 => ⟨_, _, Im.dp _ (Im.mono ((tk_same s17).trans (tk_new he2)) _ iB11), Im.dp _ (.tup (.inl upd_same) .nil), fl_shaped flB (by decide), shaped_nil, ?_⟩⟩
            have s18 : Same H16 (upd H17 e2 (.tup [])) := s17.trans (same_new he2)
            rw [eqv_mat_nil]
            generalize upd H17 e2 (.tup []) = H18 at *
            refine ⟨_, rfl, ?_⟩
            cases hB : B2.isEmpty with
            | true => exact iteF (iteF ⟨_, _, _, _, _, _, _, _, _, _, _, _, _, rfl, (u11.same s18).less (by omega)⟩)
            | false =>
            have hB0 := ne_of_isEmpty hB
            refine iteT ⟨.ref p3, rfl, by show 0 ≤ sizeLine; decide, fun e3 he3 => ⟨_, _, Im.dp _ (Im.mono ((tk_same s18).trans (tk_new he3)) _ iC11), Im.dp _ (.tup (.inl upd_same) .nil), fl_shaped (dC.fl (by omega) (by omega)) (by decide), shaped_nil, ?_⟩⟩
            have s19 : Same H16 (upd H18 e3 (.tup [])) := s18.trans (same_new he3)
            rw [eqv_mat_nil]
            generalize upd H18 e3 (.tup []) = H19 at *
            refine ⟨_, rfl, ?_⟩
            cases hC : C1.isEmpty with
            | true => exact iteF ⟨_, _, _, _, _, _, _, _, _, _, _, _, _, rfl, (u11.same s19).less (by omega)⟩
            | false =>
            have hC0 := ne_of_isEmpty hC
            refine iteT ?_
            have wB2 : width B2 = n2 := width_of dB hB0
            have wC : width C1 = n3 := width_of dC hC0
            have t19 := tk_same s19
            replace iA11 := Im.mono t19 _ iA11
            replace iB11 := Im.mono t19 _ iB11
            replace iC11 := Im.mono t19 _ iC11
            replace id12 := Im.mono t19 _ id12
            replace u11 := u11.same s19
            replace eD11 := s19 _ _ eD11
            have ftP : Fit (mm (width B2) A1 B2) C1 (width C1) := by
              rw [wB2, wC]
              refine ⟨fun r hr => ?_, dC.rows, ?_, by rw [dC.len]; omega, by omega, bd_few dA dB (by omega), fun r hr y hy => (dC.bd r hr y hy).mono (by decide) (by decide)⟩
              · obtain ⟨r', _, rfl⟩ := List.mem_map.mp hr
                rw [vm_length dB.rows, dC.len]
              · unfold mm; rw [List.length_map, dA.len]; omega
            have ftBC : Fit B2 C1 (width C1) := by rw [wC]; exact dB.fit dC (by omega) (by omega) (by omega)
            have wBC : width (mm (width C1) B2 C1) = width C1 := width_mm (by rw [wC]; exact dC.rows) hB0
            have ftA : Fit A1 (mm (width C1) B2 C1) (width (mm (width C1) B2 C1)) := by
              rw [wBC, wC]
              refine ⟨fun r hr => ?_, fun r hr => ?_, by rw [dA.len]; omega, ?_, by omega, fun r hr y hy => (dA.bd r hr y hy).mono (by decide) (by decide), bd_few dB dC (by omega)⟩
              · unfold mm; rw [List.length_map, dB.len, dA.rows r hr]
              · obtain ⟨r', _, rfl⟩ := List.mem_map.mp hr
                exact vm_length dC.rows
              · unfold mm; rw [List.length_map, dB.len]; omega
            have asc : mm (width C1) A1 (mm (width C1) B2 C1) = mm (width C1) (mm (width B2) A1 B2) C1 := (mm_assoc (by rw [wB2]; exact dB.rows) (by rw [wC]; exact dC.rows)).symm
            refine ⟨.ref p1, rfl, .ref p4, rfl, .ref p1, .ref p4, A1, B2, rfl, iA11, iB11, ft2, fun p7 H20 s20 np7 i7 => ?_⟩
            refine ⟨.ref p3, rfl, .ref p7, .ref p3, _, C1, rfl, i7, Im.mono (tk_same s20) _ iC11, ftP, fun p8 H21 s21 np8 i8 => ?_⟩
            have s1921 := s20.trans s21
            have t21 := tk_same s1921
            refine ⟨.ref p8, rfl, .ref pd, rfl, .ref p3, rfl, .ref D, rfl, D, _, 3, _, rfl, rfl, .of (s1921 _ _ eD11), atI_nat (j := 3) rfl, .ref pd, .ref p3, _, C1, n3, rfl, Im.mono t21 _ id12, Im.mono t21 _ iC11, by rw [← wC]; exact ftP, fun p9 H22 s22 np9 i9 => ?_⟩
            refine ⟨.ref p8, .ref p9, _, rfl, Im.mono (tk_same s22) _ i8, by rw [wC]; exact i9, mm_fl ftP, fun H23 s23 => ⟨true, rfl, iteF ?_⟩⟩
            have s2123 := s22.trans s23
            have s1923 := s1921.trans s2123
            have t23 := tk_same s1923
            refine ⟨.ref p1, rfl, .ref p4, rfl, .ref p3, rfl, .ref p4, .ref p3, B2, C1, rfl, Im.mono t23 _ iB11, Im.mono t23 _ iC11, ftBC, fun p10 H24 s24 np10 i10 => ?_⟩
            refine ⟨.ref p1, .ref p10, A1, _, rfl, Im.mono (t23.trans (tk_same s24)) _ iA11, i10, ftA, fun p11 H25 s25 np11 i11 => ?_⟩
            rw [wBC, asc] at i11
            refine ⟨.ref p8, rfl, .ref p11, .ref p8, _, rfl, i11, Im.mono (tk_same ((s2123.trans s24).trans s25)) _ i8, mm_fl ftP, fun H26 s26 => ⟨true, rfl, iteF ?_⟩⟩
            exact ⟨_, _, _, _, _, _, _, _, _, _, _, _, _, rfl, (u11.same (((s1923.trans s24).trans s25).trans s26)).less (by omega)⟩
    · rintro σ H2 ⟨y2, y3, y4, y5, y6, y7, y8, y9, y10, y11, y12, y13, y14, rfl, u2⟩
      refine ⟨fun σ' H' => ∃ y2 y3 y4 y5 y6 y7 y8 y9 y10 y11 y12 y13 y14, σ' = [some (.ref a), some (.ref c), y2, y3, y4, y5, y6, y7, y8, y9, y10, y11, y12, y13, y14] ∧ Cup H' c L 600000, ?_, ?_⟩
      · refine ⟨.ref c, rfl, c, L, 6, 699999, rfl, u2, by decide, by decide, fun d H4 d0 d4 u4 b4 => ⟨rfl, _, rfl, ?_⟩⟩
        by_cases hd : d = 0
        · rw [decide_eq_true (show V.int d = V.int 0 by rw [hd])]
          refine iteT ⟨3, rfl, by decide, by decide, fun D hD => ?_⟩
          have neD := u4.ne hD
          refine lc_all (walk_range (lo := 0) (n := 3)) (fun j H5 => ∃ ss : List Int, ss.length = j ∧ (∀ s ∈ ss, 6 ≤ s ∧ s < 17) ∧ Cup H5 c L (690000 + (3 - j)) ∧ H5 D = some (.lst (ss.map V.int))) ⟨[], rfl, fun _ h => by simp at h, (u4.less (by omega)).same (same_new hD), upd_same⟩ (fun _ _ _ _ => trivial) (fun j x H5 H6 hj z y => ?_) (fun H5 z => ?_)
          · obtain ⟨ss, ls, bs, u5, eD⟩ := z
            obtain ⟨rfl, rfl⟩ := y
            rw [show 690000 + (3 - j) = (690000 + (3 - (j + 1))) + 1 by omega] at u5
            refine ⟨rfl, .ref c, rfl, c, L, 11, _, rfl, u5, by decide, by decide, fun d2 H7 e0 e6 u7 b7 => ⟨_, _, rfl, rfl, _, b7 D _ neD.1 neD.2 eD, ?_, ss ++ [6 + d2], by rw [List.length_append, ls]; rfl, fun s hs => ?_, u7.upd neD.1 neD.2, ?_⟩⟩
            · rw [List.length_map]; exact small1000 (by omega)
            · rcases List.mem_append.mp hs with h | h
              · exact bs s h
              · rw [List.mem_singleton.mp h]; exact ⟨by omega, by omega⟩
            · rw [upd_same, List.map_append]; rfl
          · obtain ⟨ss, ls, bs, u5, eD⟩ := z
            obtain ⟨s0, s1, s2, rfl⟩ : ∃ s0 s1 s2, ss = [s0, s1, s2] := by
              match ss, ls with
              | [w, x, y], _ => exact ⟨w, x, y, rfl⟩
            have c0 := bs s0 (by simp)
            have c1 := bs s1 (by simp)
            have c2 := bs s2 (by simp)
            obtain ⟨n0, rfl⟩ : ∃ n : Nat, s0 = n := ⟨s0.toNat, by omega⟩
            obtain ⟨n1, rfl⟩ : ∃ n : Nat, s1 = n := ⟨s1.toNat, by omega⟩
            obtain ⟨n2, rfl⟩ : ∃ n : Nat, s2 = n := ⟨s2.toNat, by omega⟩
            have fu : ∀ p q : Nat, p ≤ 16 → q ≤ 16 → 5 * p * q ≤ 1280 := fun p q hp hq => Nat.mul_le_mul (Nat.mul_le_mul (Nat.le_refl 5) hp) hq
            have f10 := fu n1 n0 (by omega) (by omega)
            have f21 := fu n2 n1 (by omega) (by omega)
            refine ⟨.ref c, rfl, .ref D, rfl, D, _, 0, _, rfl, rfl, .of eD, atI_nat (j := 0) rfl, .ref D, rfl, D, _, 1, _, rfl, rfl, .of eD, atI_nat (j := 1) rfl, c, L, false, n0, n1, 680000, rfl, by omega, by omega, u5.less (by omega), fun A1 p1 H6 dA iA u6 b6 np1 => ?_⟩
            have eD6 := b6 D _ neD.1 neD.2 eD
            refine ⟨.ref c, rfl, .ref D, rfl, D, _, 1, _, rfl, rfl, .of eD6, atI_nat (j := 1) rfl, .ref D, rfl, D, _, 2, _, rfl, rfl, .of eD6, atI_nat (j := 2) rfl, c, L, false, n1, n2, 670000, rfl, by omega, by omega, u6.less (by omega), fun B1 p2 H7 dB iB u7 b7 np2 => ⟨_, _, rfl, ?_⟩⟩
            have eD7 := b7 D _ neD.1 neD.2 eD6
            replace iA := Im.mono (b7.tk u6) _ iA
            have hB0 : B1 ≠ [] := fun e => by
              have := dB.len
              rw [e] at this
              simp at this
              omega
            have wB : width B1 = n2 := width_of dB hB0
            have ft : Fit A1 B1 (width B1) := by rw [wB]; exact dA.fit dB (by omega) (by omega) (by omega)
            refine ⟨.ref p1, rfl, .ref p2, rfl, .ref p1, .ref p2, A1, B1, rfl, iA, iB, ft, fun p5 H8 s8 np5 i5 => ?_⟩
            have t8 := tk_same s8
            refine ⟨.ref p1, rfl, .ref p2, rfl, .ref D, rfl, D, _, 2, _, rfl, rfl, .of (s8 _ _ eD7), atI_nat (j := 2) rfl, .ref p1, .ref p2, A1, B1, n2, rfl, Im.mono t8 _ iA, Im.mono t8 _ iB, by rw [← wB]; exact ft, fun p6 H9 s9 np6 i6 => ?_⟩
            refine ⟨.ref p5, .ref p6, _, rfl, Im.mono (tk_same s9) _ i5, by rw [wB]; exact i6, mm_fl ft, fun H10 s10 => ⟨true, rfl, iteF ?_⟩⟩
            exact ⟨_, _, _, _, _, _, _, _, _, _, _, _, _, rfl, (u7.same ((s8.trans s9).trans s10)).less (by omega)⟩
        · rw [decide_eq_false (show ¬ V.int d = V.int 0 from fun z => hd (V.int.inj z))]
          exact iteF ⟨_, _, _, _, _, _, _, _, _, _, _, _, _, rfl, u4.less (by omega)⟩
      · rintro σ' H3 ⟨z2, z3, z4, z5, z6, z7, z8, z9, z10, z11, z12, z13, z14, rfl, u3⟩
        refine ⟨.ref c, rfl, c, L, 9, 599999, rfl, u3, by decide, by decide, fun d H4 d0 d9 u4 b4 => ⟨_, _, rfl, rfl, ?_⟩⟩
        obtain ⟨sz, esz⟩ : ∃ n : Nat, 48 - d = n := ⟨(48 - d).toNat, by omega⟩
        have sz1 : 40 ≤ sz := by omega
        have sz2 : sz ≤ 48 := by omega
        show gName 10 (.int (48 - d)) _ _ _
        rw [esz]
        refine ⟨.ref c, rfl, .int sz, rfl, c, L, false, 1, sz, 590000, rfl, by decide, sz2, u4.less (by omega), fun F1 pf H5 dF iF u5 b5 npf => ?_⟩
        refine ⟨.ref c, rfl, .int sz, rfl, c, L, true, 1, sz, 580000, rfl, by decide, sz2, u5.less (by omega), fun M1 pm H6 dM iM u6 b6 npm => ?_⟩
        replace iF := Im.mono (b6.tk u5) _ iF
        obtain ⟨row, eM⟩ : ∃ row, M1 = [row] := by
          match M1, dM.len with
          | [x], _ => exact ⟨x, rfl⟩
        subst eM
        have lrow : row.length = sz := dM.rows row (by simp)
        have brow : ∀ q ∈ row, Bd 134 3 q := dM.bd row (by simp)
        obtain ⟨am, vm1, epm, hm, ivm⟩ := mat_inv iM
        obtain ⟨v0, rest, e0, i0, irest⟩ := ivm.cons_inv
        obtain ⟨ar, us, rfl, har, hus⟩ := vec_inv i0
        have lus : us.length = row.length := all_len hus
        refine ⟨am, vm1, 0, .ref ar, epm, rfl, hm.sq, by rw [e0]; exact atI_nat (j := 0) rfl, ar, rfl, ⟨us, har.sq⟩, fun D hD => ?_⟩
        refine lc_all (walk_tup (xs := us)) (fun i H7 => Same H6 H7 ∧ ∃ acc, H7 D = some (.lst acc) ∧ ImAll K H7 acc (((row.map fun q => [q]).take i).map vD)) ⟨same_new hD, [], upd_same, .nil⟩ (fun i H7 _ z => (har.mono (tk_same z.1)).sq) (fun i x H7 H8 hi z y => ?_) (fun H7 z => ?_)
        · obtain ⟨s7, acc, eD, ia⟩ := z
          obtain ⟨rfl, hx⟩ := y
          obtain ⟨qq, hq, iq⟩ := all_get hus hx
          have hget : (row.map fun q => [q])[i]? = some [qq] := by rw [List.getElem?_map, hq]; rfl
          have lacc : acc.length = i := by rw [all_len ia, List.length_take, List.length_map]; omega
          refine ⟨rfl, x, rfl, by show 1 ≤ sizeLine; decide, fun p hp => ?_⟩
          have eD2 : (upd H8 p (.tup [x])) D = some (.lst acc) := by rw [upd_ne (ne_of_none eD hp)]; exact eD
          refine ⟨acc, eD2, small1000 (by omega), fun b o e => ?_, acc ++ [.ref p], upd_same, ?_⟩
          · rw [upd_ne (ne_of_none e hD)]
            exact (same_new hp) _ _ (s7 _ _ e)
          · refine all_snoc (ImAll.mono ((tk_new hp).trans (tk_lst eD2)) _ ia) hget (Im.mono (tk_lst eD2) _ (.tup (.inl upd_same) (.cons (Im.mono ((tk_same s7).trans (tk_new hp)) _ iq) .nil)))
        · obtain ⟨s7, acc, eD, ia⟩ := z
          rw [List.take_of_length_le (by rw [List.length_map]; omega)] at ia
          refine ⟨D, acc, rfl, .inl ⟨.of eD, fun pt hpt => ?_⟩⟩
          generalize hT : (row.map fun q => [q]) = T1 at ia
          have dT : Drawn T1 sz 1 := by
            subst hT
            refine ⟨by rw [List.length_map]; exact lrow, fun r hr => ?_, fun r hr y hy => ?_⟩
            · obtain ⟨q', _, rfl⟩ := List.mem_map.mp hr; rfl
            · obtain ⟨q', hq', rfl⟩ := List.mem_map.mp hr
              rw [List.mem_singleton.mp hy]
              exact brow q' hq'
          have iT : Im K (upd H7 pt (.tup acc)) (.ref pt) (mD T1) := .tup (.inl upd_same) (ImAll.mono (tk_new hpt) _ ia)
          have s67 := s7.trans (same_new (o := .tup acc) hpt)
          replace iF := Im.mono (tk_same s67) _ iF
          replace u6 := u6.same s67
          generalize upd H7 pt (.tup acc) = G at *
          have hT0 : T1 ≠ [] := fun e => by
            have := dT.len
            rw [e] at this
            simp at this
            omega
          have hF0 : F1 ≠ [] := fun e => by
            have := dF.len
            rw [e] at this
            simp at this
          have wT : width T1 = 1 := width_of dT hT0
          have wF : width F1 = sz := width_of dF hF0
          have ftFT : Fit F1 T1 (width T1) := by rw [wT]; exact dF.fit dT (by decide) sz2 (by decide)
          have ftTF : Fit T1 F1 (width F1) := by rw [wF]; exact dT.fit dF sz2 (by decide) sz2
          refine ⟨.ref pf, rfl, .ref pt, rfl, .ref pf, .ref pt, F1, T1, rfl, iF, iT, ftFT, fun p5 H8 s8 np5 i5 => ?_⟩
          have t8 := tk_same s8
          refine ⟨.ref pf, rfl, .ref pt, rfl, .ref pf, .ref pt, F1, T1, 1, rfl, Im.mono t8 _ iF, Im.mono t8 _ iT, by rw [← wT]; exact ftFT, fun p6 H9 s9 np6 i6 => ?_⟩
          refine ⟨.ref p5, .ref p6, _, rfl, Im.mono (tk_same s9) _ i5, by rw [wT]; exact i6, mm_fl ftFT, fun H10 s10 => ⟨true, rfl, iteF ?_⟩⟩
          have s810 := (s8.trans s9).trans s10
          replace iF := Im.mono (tk_same s810) _ iF
          replace iT := Im.mono (tk_same s810) _ iT
          replace u6 := u6.same s810
          refine ⟨fun σ' H' => Im K H' (.ref pf) (mD F1) ∧ ∃ x2 x3 x4 x5 x6 x7 x8 x9 x10 x12 x13 x14, σ' = [some (.ref a), some (.ref c), x2, x3, x4, x5, x6, x7, x8, x9, x10, some (.ref pf), x12, x13, x14], ?_, ?_⟩
          · refine ⟨.ref c, rfl, c, L, 6, 579999, rfl, u6, by decide, by decide, fun d2 H11 e0 e6 u11 b11 => ⟨rfl, _, rfl, ?_⟩⟩
            have t11 := b11.tk u6
            replace iF := Im.mono t11 _ iF
            replace iT := Im.mono t11 _ iT
            by_cases hd2 : d2 = 0
            · rw [decide_eq_true (show V.int d2 = V.int 0 by rw [hd2])]
              refine iteT ⟨.ref pt, rfl, .ref pf, rfl, .ref pt, .ref pf, T1, F1, rfl, iT, iF, ftTF, fun p7 H12 s12 np7 i7 => ?_⟩
              have t12 := tk_same s12
              refine ⟨.ref pt, rfl, .ref pf, rfl, .int sz, rfl, .ref pt, .ref pf, T1, F1, sz, rfl, Im.mono t12 _ iT, Im.mono t12 _ iF, by rw [← wF]; exact ftTF, fun p8 H13 s13 np8 i8 => ?_⟩
              refine ⟨.ref p7, .ref p8, _, rfl, Im.mono (tk_same s13) _ i7, by rw [wF]; exact i8, mm_fl ftTF, fun H14 s14 => ⟨true, rfl, iteF ?_⟩⟩
              exact ⟨Im.mono (tk_same ((s12.trans s13).trans s14)) _ iF, _, _, _, _, _, _, _, _, _, _, _, _, rfl⟩
            · rw [decide_eq_false (show ¬ V.int d2 = V.int 0 from fun z => hd2 (V.int.inj z))]
              exact iteF (iteF ⟨iF, _, _, _, _, _, _, _, _, _, _, _, _, rfl⟩)
          · rintro σ' H11 ⟨iF11, x2, x3, x4, x5, x6, x7, x8, x9, x10, x12, x13, x14, rfl⟩
            have ft0 : Fit [] F1 (width F1) := ⟨fun r hr => by simp at hr, ftTF.rowsB, by decide, ftTF.lB, ftTF.ln, fun r hr => by simp at hr, ftTF.bB⟩
            have ft00 : Fit [[]] [] (width []) := ⟨fun r hr => by rw [List.mem_singleton.mp hr]; rfl, fun r hr => by simp at hr, by decide, by decide, by decide, fun r hr y hy => by rw [List.mem_singleton.mp hr] at hy; simp at hy, fun r hr => by simp at hr⟩
            refine ⟨by show 0 ≤ sizeLine; decide, fun q1 hq1 => ⟨.ref pf, rfl, .ref q1, .ref pf, [], F1, rfl, .tup (.inl upd_same) .nil, Im.mono (tk_new hq1) _ iF11, ft0, fun p1 H12 s12 np1 i1 => ⟨by show 0 ≤ sizeLine; decide, fun q2 hq2 => ?_⟩⟩⟩
            refine ⟨.ref p1, .ref q2, .tuple [], rfl, Im.mono (tk_new hq2) _ i1, .tup (.inl upd_same) .nil, .tup 2 [] (by decide) (fun _ h => by simp at h), fun H13 s13 => ⟨true, rfl, iteT ?_⟩⟩
            refine ⟨by show 0 ≤ sizeLine; decide, fun q3 hq3 => ⟨by show 1 ≤ sizeLine; decide, fun q4 hq4 => ⟨by show 0 ≤ sizeLine; decide, fun q5 hq5 => ?_⟩⟩⟩
            have i3 : Im K (upd H13 q3 (.tup [])) (.ref q3) (.tuple []) := .tup (.inl upd_same) .nil
            have i4 : Im K (upd (upd H13 q3 (.tup [])) q4 (.tup [.ref q3])) (.ref q4) (mD [[]]) := Im.new hq4 (.cons i3 .nil)
            refine ⟨.ref q4, .ref q5, [[]], [], rfl, Im.mono (tk_new hq5) _ i4, .tup (.inl upd_same) .nil, ft00, fun p2 H14 s14 np2 i2 => ?_⟩
            refine ⟨by show 0 ≤ sizeLine; decide, fun q6 hq6 => ⟨by show 1 ≤ sizeLine; decide, fun q7 hq7 => ?_⟩⟩
            have i6 : Im K (upd H14 q6 (.tup [])) (.ref q6) (.tuple []) := .tup (.inl upd_same) .nil
            exact ⟨.ref p2, .ref q7, mD [[]], rfl, Im.mono ((tk_new hq6).trans (tk_new hq7)) _ i2, Im.new hq7 (.cons i6 .nil), fl_mat (by decide) (fun r hr => by rw [List.mem_singleton.mp hr]; decide), fun H15 s15 => q H15⟩
end
end K41

set_option Elab.async false
set_option linter.all false
set_option maxRecDepth 100000
namespace K41
open PySem PySem.Spec PyProof.Rows L2 Ly Mt
theorem int_mk {K : PySem.W.Frag} {h : Heap} {mg : Str → Option Value} (X : K.In h) (G : h.Ns mainGlobals mg) {x : Str} {i : Int} {t : Tok} (e : PySem.W.nsIn K mainGlobals x = some (some (.int i t))) : ∃ u, mg x = some u ∧ L2.RelV (.int i) u := ⟨_, PySem.W.mg_of X G e, t, rfl⟩
theorem all_mk {l : PySem.W.OpenLaw} {w : World} {K : PySem.W.Frag} {mg : Str → Option Value} {fa : Addr} (hfa : mg "law" = some (.ref fa)) (T : Tx K mg)
    (h_is_int : Here K mg "is_int" s_is_int) (h_is_pair : Here K mg "is_pair" s_is_pair) (h_is_ratio : Here K mg "is_ratio" s_is_ratio) (h_made : Here K mg "made" s_made) (h_plus : Here K mg "plus" s_plus) (h_times : Here K mg "times" s_times) (h_is_vector : Here K mg "is_vector" s_is_vector) (h_is_matrix : Here K mg "is_matrix" s_is_matrix) (h_need_matrix : Here K mg "need_matrix" s_need_matrix) (h_combined : Here K mg "combined" s_combined) (h_multiplied : Here K mg "multiplied" s_multiplied) (h_times_matrix : Here K mg "times_matrix" s_times_matrix) (h__law_cup : Here K mg "_law_cup" s__law_cup) (h__law_sip : Here K mg "_law_sip" s__law_sip) (h__law_ratio : Here K mg "_law_ratio" s__law_ratio) (h__law_total : Here K mg "_law_total" s__law_total) (h__law_entry : Here K mg "_law_entry" s__law_entry) (h__law_same : Here K mg "_law_same" s__law_same) (h__law_matrix : Here K mg "_law_matrix" s__law_matrix) (h__law_due : Here K mg "_law_due" s__law_due) (h_law : Here K mg "law" s_law) :
    ∃ fd : FuncData, (∀ (s : Shared) (v : Value), BindsTo s fd ⟨[v], []⟩ [("script", v)]) ∧ ∀ base : Heap, K.In base → base.Ns mainGlobals mg → FnOk l.prog w K mg base CX0 20 fa fd ["script"] (sp_law K) := by
  obtain ⟨f, fd, hm, F⟩ := h_law
  have e : f = fa := by
    have := hm.symm.trans hfa
    injection this with e1
    injection e1
  subst e
  refine ⟨fd, fun s v => ?_, fun base _ _ => ?_⟩
  · obtain ⟨oc, od, kV, doc, pm, an, cdv, ct, osl, rfl, lk, hcd⟩ := F.ex
    exact .of_eq rfl
  have D1 : Def l.prog w K mg base 1 "is_int" s_is_int ["thing"] sp_is_int := h_is_int.toDef (fun F => ok_is_int F T) fun _ _ _ _ _ _ us hl => match us, hl with | [_], _ => rfl
  have D2 : Def l.prog w K mg base 1 "is_pair" s_is_pair ["thing"] (sp_is_pair K) := h_is_pair.toDef (fun F => ok_is_pair F T) fun _ _ _ _ _ _ us hl => match us, hl with | [_], _ => rfl
  have D3 : Def l.prog w K mg base 2 "is_ratio" s_is_ratio ["thing"] (sp_is_ratio K) := h_is_ratio.toDef (fun F => ok_is_ratio F T D2 D1 (Nat.le_refl _)) fun _ _ _ _ _ _ us hl => match us, hl with | [_], _ => rfl
  have D4 : Def l.prog w K mg base 1 "made" s_made ["top", "bottom"] sp_made := h_made.toDef (fun F => ok_made F T) fun _ _ _ _ _ _ us hl => match us, hl with | [_, _], _ => rfl
  have D5 : Def l.prog w K mg base 2 "plus" s_plus ["one", "other"] (sp_plus K) := h_plus.toDef (fun F => ok_plus F T D4 (Nat.le_refl _)) fun _ _ _ _ _ _ us hl => match us, hl with | [_, _], _ => rfl
  have D6 : Def l.prog w K mg base 2 "times" s_times ["one", "other"] (sp_times K) := h_times.toDef (fun F => ok_times F T D4 (Nat.le_refl _)) fun _ _ _ _ _ _ us hl => match us, hl with | [_, _], _ => rfl
  have D7 : Def l.prog w K mg base 3 "is_vector" s_is_vector ["thing"] (sp_is_vector K) := h_is_vector.toDef (fun F => ok_is_vector F T D3 (Nat.le_refl _)) fun _ _ _ _ _ _ us hl => match us, hl with | [_], _ => rfl
  have D8 : Def l.prog w K mg base 4 "is_matrix" s_is_matrix ["thing"] (sp_is_matrix K) := h_is_matrix.toDef (fun F => ok_is_matrix F T D7 (Nat.le_refl _)) fun _ _ _ _ _ _ us hl => match us, hl with | [_], _ => rfl
  have D9 : Def l.prog w K mg base 5 "need_matrix" s_need_matrix ["thing"] (sp_need_matrix K) := h_need_matrix.toDef (fun F => ok_need_matrix F T D8 (Nat.le_refl _)) fun _ _ _ _ _ _ us hl => match us, hl with | [_], _ => rfl
  have D10 : Def l.prog w K mg base 3 "combined" s_combined ["weights", "rows", "size"] (sp_combined K) := h_combined.toDef (fun F => ok_combined F T D5 D6 (Nat.le_refl _)) fun _ _ _ _ _ _ us hl => match us, hl with | [_, _, _], _ => rfl
  have D11 : Def l.prog w K mg base 5 "multiplied" s_multiplied ["one", "other", "size"] (sp_multiplied K) := h_multiplied.toDef (fun F => ok_multiplied F T D10 (by decide)) fun _ _ _ _ _ _ us hl => match us, hl with | [_, _, _], _ => rfl
  have D12 : Def l.prog w K mg base 6 "times_matrix" s_times_matrix ["one", "other"] (sp_times_matrix K) := h_times_matrix.toDef (fun F => ok_times_matrix F T D9 D11 (by decide)) fun _ _ _ _ _ _ us hl => match us, hl with | [_, _], _ => rfl
  have D13 : Def l.prog w K mg base 1 "_law_cup" s__law_cup ["script"] (sp_cup K) := h__law_cup.toDef (fun F => ok__law_cup F T) fun _ _ _ _ _ _ us hl => match us, hl with | [_], _ => rfl
  have D14 : Def l.prog w K mg base 1 "_law_sip" s__law_sip ["cup", "many"] sp_sip := h__law_sip.toDef (fun F => ok__law_sip F T) fun _ _ _ _ _ _ us hl => match us, hl with | [_, _], _ => rfl
  have D15 : Def l.prog w K mg base 1 "_law_ratio" s__law_ratio ["top", "bottom"] (sp_ratio K) := h__law_ratio.toDef (fun F => ok__law_ratio F T) fun _ _ _ _ _ _ us hl => match us, hl with | [_, _], _ => rfl
  have D16 : Def l.prog w K mg base 1 "_law_total" s__law_total ["ones", "others"] (sp_total K) := h__law_total.toDef (fun F => ok__law_total F T) fun _ _ _ _ _ _ us hl => match us, hl with | [_, _], _ => rfl
  have D17 : Def l.prog w K mg base 2 "_law_entry" s__law_entry ["cup", "great"] (sp_entry K) := h__law_entry.toDef (fun F => ok__law_entry F T D14 D15 (Nat.le_refl _)) fun _ _ _ _ _ _ us hl => match us, hl with | [_, _], _ => rfl
  have bS : ∀ (kV doc pm : Value) (an : Option Addr) (cdv ct : Value) (us : List Value), us.length = (["found", "due"] : List Str).length → bindArgs (PySem.W.fnOf "_law_same" "_law_same" (defArgs s__law_same) (defBody s__law_same) (defScope s__law_same) .none kV doc pm an cdv ct) ⟨us, []⟩ = pure ((["found", "due"] : List Str).zip us) := fun _ _ _ _ _ _ us hl => match us, hl with | [_, _], _ => rfl
  have S0 : Def l.prog w K mg base 1 "_law_same" s__law_same ["found", "due"] (sp_same K 0) := h__law_same.toDef (fun F => ok_same0 F) bS
  have S1 : Def l.prog w K mg base 2 "_law_same" s__law_same ["found", "due"] (sp_same K 1) := h__law_same.toDef (fun F => ok__law_same F T S0 (Nat.le_refl _)) bS
  have S2 : Def l.prog w K mg base 3 "_law_same" s__law_same ["found", "due"] (sp_same K 2) := h__law_same.toDef (fun F => ok__law_same F T S1 (Nat.le_refl _)) bS
  have S3 : Def l.prog w K mg base 4 "_law_same" s__law_same ["found", "due"] (sp_same K 3) := h__law_same.toDef (fun F => ok__law_same F T S2 (Nat.le_refl _)) bS
  have S4 : Def l.prog w K mg base 5 "_law_same" s__law_same ["found", "due"] (sp_same K 4) := h__law_same.toDef (fun F => ok__law_same F T S3 (Nat.le_refl _)) bS
  have D18 : Def l.prog w K mg base 3 "_law_matrix" s__law_matrix ["cup", "many", "size", "great"] (sp_matrix K) := h__law_matrix.toDef (fun F => ok__law_matrix F T D17 (Nat.le_refl _)) fun _ _ _ _ _ _ us hl => match us, hl with | [_, _, _, _], _ => rfl
  have D19 : Def l.prog w K mg base 2 "_law_due" s__law_due ["one", "other", "size"] (sp_due K) := h__law_due.toDef (fun F => ok__law_due F T D16 D15 (Nat.le_refl _)) fun _ _ _ _ _ _ us hl => match us, hl with | [_, _, _], _ => rfl
  exact ok_law F T D13 D14 D18 D19 S4 D12 (by decide) (by decide) (by decide) (by decide) (by decide) (by decide)
end K41
open PySem PySem.W PyProof.Rows
set_option maxHeartbeats 0 in
theorem PySem.Challenge.cw_sameontrees_k41_whole_products_holds : PySem.Challenge.rw_sameontrees_k41_whole_products.Holds := by
  w_on; o_law; k_head; (case hw => w_witness2)
  k_fill
  refine L2.walk_of (l := PySem.Challenge.rw_sameontrees_k41_whole_products) (n := 63) (k := 20) (x := "script") (CX := fun _ => L2.CX0) (sp := fun w => K41.sp_law _) rfl (by decide) rfl ⟨rfl, by decide, by decide⟩ (fun w h Y => PySem.W.kIn_of Y) ?F (fun _ _ a ns hl _ hS => ⟨a, ns, rfl, hS, hl, fun _ => rfl⟩) (fun _ _ _ _ _ h => h)
  case F =>
    intro w mg fa h KX G hmg
    refine' K41.all_mk hmg ⟨PySem.W.mg_none_of KX G ?z0, PySem.W.mg_none_of KX G ?z1, PySem.W.mg_none_of KX G ?z2, PySem.W.mg_none_of KX G ?z3, PySem.W.mg_none_of KX G ?z4, PySem.W.mg_none_of KX G ?z5, PySem.W.mg_none_of KX G ?z6, PySem.W.mg_none_of KX G ?z7, PySem.W.mg_none_of KX G ?z8, PySem.W.mg_none_of KX G ?z9, PySem.W.mg_none_of KX G ?z10, PySem.W.mg_of KX G ?g1, K41.int_mk KX G ?g2, Ly.pair_mk KX G ?g3 ?g4⟩ (Ly.here KX G ?a0 ?l0 ?c0 ?k0) (Ly.here KX G ?a1 ?l1 ?c1 ?k1) (Ly.here KX G ?a2 ?l2 ?c2 ?k2) (Ly.here KX G ?a3 ?l3 ?c3 ?k3) (Ly.here KX G ?a4 ?l4 ?c4 ?k4) (Ly.here KX G ?a5 ?l5 ?c5 ?k5) (Ly.here KX G ?a6 ?l6 ?c6 ?k6) (Ly.here KX G ?a7 ?l7 ?c7 ?k7) (Ly.here KX G ?a8 ?l8 ?c8 ?k8) (Ly.here KX G ?a9 ?l9 ?c9 ?k9) (Ly.here KX G ?a10 ?l10 ?c10 ?k10) (Ly.here KX G ?a11 ?l11 ?c11 ?k11) (Ly.here KX G ?a12 ?l12 ?c12 ?k12) (Ly.here KX G ?a13 ?l13 ?c13 ?k13) (Ly.here KX G ?a14 ?l14 ?c14 ?k14) (Ly.here KX G ?a15 ?l15 ?c15 ?k15) (Ly.here KX G ?a16 ?l16 ?c16 ?k16) (Ly.here KX G ?a17 ?l17 ?c17 ?k17) (Ly.here KX G ?a18 ?l18 ?c18 ?k18) (Ly.here KX G ?a19 ?l19 ?c19 ?k19) (Ly.here KX G ?a20 ?l20 ?c20 ?k20)
    (case a0 => k_is)
    (case l0 => k_is)
    (case c0 => k_is)
    (case k0 => k_is)
    (case a1 => k_is)
    (case l1 => k_is)
    (case c1 => k_is)
    (case k1 => k_is)
    (case a2 => k_is)
    (case l2 => k_is)
    (case c2 => k_is)
    (case k2 => k_is)
    (case a3 => k_is)
    (case l3 => k_is)
    (case c3 => k_is)
    (case k3 => k_is)
    (case a4 => k_is)
    (case l4 => k_is)
    (case c4 => k_is)
    (case k4 => k_is)
    (case a5 => k_is)
    (case l5 => k_is)
    (case c5 => k_is)
    (case k5 => k_is)
    (case a6 => k_is)
    (case l6 => k_is)
    (case c6 => k_is)
    (case k6 => k_is)
    (case a7 => k_is)
    (case l7 => k_is)
    (case c7 => k_is)
    (case k7 => k_is)
    (case a8 => k_is)
    (case l8 => k_is)
    (case c8 => k_is)
    (case k8 => k_is)
    (case a9 => k_is)
    (case l9 => k_is)
    (case c9 => k_is)
    (case k9 => k_is)
    (case a10 => k_is)
    (case l10 => k_is)
    (case c10 => k_is)
    (case k10 => k_is)
    (case a11 => k_is)
    (case l11 => k_is)
    (case c11 => k_is)
    (case k11 => k_is)
    (case a12 => k_is)
    (case l12 => k_is)
    (case c12 => k_is)
    (case k12 => k_is)
    (case a13 => k_is)
    (case l13 => k_is)
    (case c13 => k_is)
    (case k13 => k_is)
    (case a14 => k_is)
    (case l14 => k_is)
    (case c14 => k_is)
    (case k14 => k_is)
    (case a15 => k_is)
    (case l15 => k_is)
    (case c15 => k_is)
    (case k15 => k_is)
    (case a16 => k_is)
    (case l16 => k_is)
    (case c16 => k_is)
    (case k16 => k_is)
    (case a17 => k_is)
    (case l17 => k_is)
    (case c17 => k_is)
    (case k17 => k_is)
    (case a18 => k_is)
    (case l18 => k_is)
    (case c18 => k_is)
    (case k18 => k_is)
    (case a19 => k_is)
    (case l19 => k_is)
    (case c19 => k_is)
    (case k19 => k_is)
    (case a20 => k_is)
    (case l20 => k_is)
    (case c20 => k_is)
    (case k20 => k_is)
    (case z0 => k_is)
    (case z1 => k_is)
    (case z2 => k_is)
    (case z3 => k_is)
    (case z4 => k_is)
    (case z5 => k_is)
    (case z6 => k_is)
    (case z7 => k_is)
    (case z8 => k_is)
    (case z9 => k_is)
    (case z10 => k_is)
    (case g1 => k_is)
    (case g2 => k_is)
    (case g3 => k_is)
    (case g4 => k_is)
